import PyProof.Rows.All
import Wide.All
import OpenK.AllK
import Wide.FinOn
import KE.KStateDown
import Lean
import HandS.ForMost
import HandS.More
import HandS.Exc
import HandS.WordsExc
import HandS.Defaults
import HandS.Flow
import HandS.Style
import HandS.Wide
import HandS.IsInst
import HandS.Head0
import HandS.Head1
import HandS.Head2
import HandS.HeadEnd
import HandS.HeadHook1
import HandS.HeadHook2
import PyProof.NeKinds
import PyProof.InstNe
import OpenK.KMeth
import HandS.Property
import HandS.ClsMeth
import HandS.OwnEq
import KE.KSortKeyAny
import KE.KLam
import HandS.Lambda
import HandS.SortKw
import PyProof.Rows.SortShellAny
import KE.DataMinMax
import HandS.HeadHook4
import HandS.HeadWalk
import HandS.EndTab
import HandS.TupAny
import HandS.ExcInit
import HandS.ExcField
import HandS.ExcIs
import KE.KExcIs
import HandS.ExcOwn
import HandS.TryOnly
import HandS.TupMul
import HandS.Star
import HandS.ReplaceLit
import HandS.Walk
import HandS.ReplaceDef
import HandS.ReplaceList
import HandS.GenList
import HandS.Conv
import HandS.FStr
import HandS.Zip
import HandS.Deep
import HandS.MakeKwOnly
import HandS.HotCalls
import HandS.SetBool
import HandS.TupSets
import KE.SortData
import PySem.Challenge.RW_jetworks_k39_kinds_refuse_closed_ones
set_option Elab.async false
set_option linter.all false
set_option maxRecDepth 100000
set_option exponentiation.threshold 100000
set_option maxHeartbeats 4000000
set_option pp.maxSteps 700
namespace JW
inductive T where
  | jet
  | bas (l : List T)
mutual
def T.codes : T → List Nat
  | .jet => [111]
  | .bas l => 40 :: (codesL l ++ [41])
def codesL : List T → List Nat
  | [] => []
  | t :: r => t.codes ++ codesL r
end
mutual
theorem T.ind' {P : T → Prop} (hj : P .jet) (hb : ∀ l, (∀ t ∈ l, P t) → P (.bas l)) : ∀ t, P t
  | .jet => hj
  | .bas l => hb l (indL' hj hb l)
theorem indL' {P : T → Prop} (hj : P .jet) (hb : ∀ l, (∀ t ∈ l, P t) → P (.bas l)) : ∀ l : List T, ∀ t ∈ l, P t
  | [], _, h => nomatch h
  | u :: r, t, h => by
    rcases List.mem_cons.mp h with e | e
    · exact e ▸ T.ind' hj hb u
    · exact indL' hj hb r t e
end
theorem codes_head : ∀ t : T, (∃ r, t.codes = 111 :: r) ∨ ∃ r, t.codes = 40 :: r
  | .jet => .inl ⟨[], rfl⟩
  | .bas l => .inr ⟨_, rfl⟩
mutual
theorem codes_pre : ∀ (t u : T) (r s : List Nat), t.codes ++ r = u.codes ++ s → t = u ∧ r = s
  | .jet, .jet, r, s, h => ⟨rfl, List.cons.inj h |>.2⟩
  | .jet, .bas l, r, s, h => by
    have h1 : (111 : Nat) = 40 := (List.cons.inj h).1
    cases h1
  | .bas l, .jet, r, s, h => by
    have h1 : (40 : Nat) = 111 := (List.cons.inj h).1
    cases h1
  | .bas l, .bas m, r, s, h => by
    have h1 : codesL l ++ [41] ++ r = codesL m ++ [41] ++ s := (List.cons.inj h).2
    rw [List.append_assoc, List.append_assoc] at h1
    obtain ⟨e1, e2⟩ := codesL_pre l m r s h1
    exact ⟨by rw [e1], e2⟩
theorem codesL_pre : ∀ (l m : List T) (r s : List Nat), codesL l ++ ([41] ++ r) = codesL m ++ ([41] ++ s) → l = m ∧ r = s
  | [], [], r, s, h => ⟨rfl, (List.cons.inj h).2⟩
  | [], u :: m, r, s, h => by
    have h1 : 41 :: r = u.codes ++ (codesL m ++ ([41] ++ s)) := by
      have h2 : codesL (u :: m) ++ ([41] ++ s) = u.codes ++ (codesL m ++ ([41] ++ s)) := List.append_assoc _ _ _
      rw [← h2]
      exact h
    rcases codes_head u with ⟨q, e⟩ | ⟨q, e⟩
    · rw [e] at h1
      cases (List.cons.inj h1).1
    · rw [e] at h1
      cases (List.cons.inj h1).1
  | t :: l, [], r, s, h => by
    have h1 : t.codes ++ (codesL l ++ ([41] ++ r)) = 41 :: s := by
      have h2 : codesL (t :: l) ++ ([41] ++ r) = t.codes ++ (codesL l ++ ([41] ++ r)) := List.append_assoc _ _ _
      rw [← h2]
      exact h
    rcases codes_head t with ⟨q, e⟩ | ⟨q, e⟩
    · rw [e] at h1
      cases (List.cons.inj h1).1
    · rw [e] at h1
      cases (List.cons.inj h1).1
  | t :: l, u :: m, r, s, h => by
    have h1 : t.codes ++ (codesL l ++ ([41] ++ r)) = u.codes ++ (codesL m ++ ([41] ++ s)) := by
      have h2 : codesL (t :: l) ++ ([41] ++ r) = t.codes ++ (codesL l ++ ([41] ++ r)) := List.append_assoc _ _ _
      have h3 : codesL (u :: m) ++ ([41] ++ s) = u.codes ++ (codesL m ++ ([41] ++ s)) := List.append_assoc _ _ _
      rw [← h2, ← h3]
      exact h
    obtain ⟨e1, e2⟩ := codes_pre t u _ _ h1
    obtain ⟨e3, e4⟩ := codesL_pre l m r s e2
    exact ⟨by rw [e1, e3], e4⟩
end
theorem codes_inj {t u : T} (h : t.codes = u.codes) : t = u := (codes_pre t u [] [] (by rw [h])).1
instance : DecidableEq T := fun a b => if h : a.codes = b.codes then isTrue (codes_inj h) else isFalse fun e => h (e ▸ rfl)
def tle (a b : T) : Bool := !decide (b.codes < a.codes)
theorem tle_trans (a b c : T) (h1 : tle a b = true) (h2 : tle b c = true) : tle a c = true := by
  unfold tle at *
  simp only [Bool.not_eq_true', decide_eq_false_iff_not] at *
  exact fun h => h1 (List.lt_of_le_of_lt (List.not_lt.mp h2) h)
theorem tle_total (a b : T) : (tle a b || tle b a) = true := by
  unfold tle
  by_cases h : b.codes < a.codes
  · have h2 : ¬ a.codes < b.codes := List.lt_asymm h
    simp [h2]
  · simp [h]
theorem tle_anti {a b : T} (h1 : tle a b = true) (h2 : tle b a = true) : a = b := by
  unfold tle at *
  simp only [Bool.not_eq_true', decide_eq_false_iff_not] at *
  exact codes_inj (List.le_antisymm (List.not_lt.mp h1) (List.not_lt.mp h2))
abbrev Srt (l : List T) : Prop := l.Pairwise fun a b => tle a b = true
def sortT (l : List T) : List T := l.mergeSort tle
theorem sortT_perm (l : List T) : (sortT l).Perm l := List.mergeSort_perm l tle
theorem sortT_srt (l : List T) : Srt (sortT l) := List.pairwise_mergeSort tle_trans tle_total l
theorem srt_unique : ∀ {a b : List T}, a.Perm b → Srt a → Srt b → a = b
  | [], b, p, _, _ => (List.nil_perm.mp p).symm ▸ rfl
  | x :: a, [], p, _, _ => absurd p.length_eq (by simp)
  | x :: a, y :: b, p, ha, hb => by
    have hx := List.pairwise_cons.mp ha
    have hy := List.pairwise_cons.mp hb
    have exy : x = y := by
      have h1 : x ∈ y :: b := p.mem_iff.mp List.mem_cons_self
      have h2 : y ∈ x :: a := p.mem_iff.mpr List.mem_cons_self
      rcases List.mem_cons.mp h1 with e | h1
      · exact e
      · rcases List.mem_cons.mp h2 with e | h2
        · exact e.symm
        · exact tle_anti (hx.1 y h2) (hy.1 x h1)
    subst exy
    rw [srt_unique (List.Perm.cons_inv p) hx.2 hy.2]
theorem sortT_eq {a b : List T} (p : a.Perm b) (h : Srt a) : a = sortT b := srt_unique (p.trans (sortT_perm b).symm) h (sortT_srt b)
theorem sortT_congr {a b : List T} (p : a.Perm b) : sortT a = sortT b := srt_unique ((sortT_perm a).trans (p.trans (sortT_perm b).symm)) (sortT_srt a) (sortT_srt b)
theorem sortT_of {a : List T} (h : Srt a) : sortT a = a := (sortT_eq (List.Perm.refl a) h).symm
mutual
def T.canon : T → T
  | .jet => .jet
  | .bas l => .bas (sortT (canonL l))
def canonL : List T → List T
  | [] => []
  | t :: r => t.canon :: canonL r
end
theorem canonL_map : ∀ l : List T, canonL l = l.map T.canon
  | [] => rfl
  | t :: r => by
    show t.canon :: canonL r = t.canon :: r.map T.canon
    rw [canonL_map r]
theorem canon_bas (l : List T) : (T.bas l).canon = .bas (sortT (l.map T.canon)) := by
  show T.bas (sortT (canonL l)) = _
  rw [canonL_map]
mutual
def Can : T → Prop
  | .jet => True
  | .bas l => Srt l ∧ CanL l
def CanL : List T → Prop
  | [] => True
  | t :: r => Can t ∧ CanL r
end
theorem canL_iff : ∀ {l : List T}, CanL l ↔ ∀ t ∈ l, Can t
  | [] => ⟨fun _ _ h => (nomatch h), fun _ => trivial⟩
  | t :: r => by
    constructor
    · intro h u hu
      have h1 : Can t := h.1
      have h2 : CanL r := h.2
      rcases List.mem_cons.mp hu with e | e
      · exact e ▸ h1
      · exact canL_iff.mp h2 u e
    · exact fun h => ⟨h t List.mem_cons_self, canL_iff.mpr fun u hu => h u (List.mem_cons_of_mem _ hu)⟩
theorem can_canon : ∀ t : T, Can t → t.canon = t := by
  refine T.ind' (fun _ => rfl) fun l ih h => ?_
  rw [canon_bas]
  have e : l.map T.canon = l := by
    rw [show l.map T.canon = l.map id from List.map_congr_left fun t ht => ih t ht (canL_iff.mp h.2 t ht), List.map_id]
  rw [e, sortT_of h.1]
theorem canL_sort {l : List T} (h : CanL l) : CanL (sortT l) := canL_iff.mpr fun t ht => canL_iff.mp h t ((sortT_perm l).mem_iff.mp ht)
theorem can_bas {l : List T} (h : CanL l) : Can (.bas (sortT l)) := ⟨sortT_srt l, canL_sort h⟩
theorem canon_can : ∀ t : T, Can t.canon := by
  refine T.ind' trivial fun l ih => ?_
  rw [canon_bas]
  refine can_bas (canL_iff.mpr fun t ht => ?_)
  obtain ⟨u, hu, e⟩ := List.mem_map.mp ht
  exact e ▸ ih u hu
mutual
def T.size : T → Nat
  | .jet => 1
  | .bas l => 1 + sizeL l
def sizeL : List T → Nat
  | [] => 0
  | t :: r => t.size + sizeL r
end
mutual
def T.jts : T → Nat
  | .jet => 1
  | .bas l => jtsL l
def jtsL : List T → Nat
  | [] => 0
  | t :: r => t.jts + jtsL r
end
mutual
def T.dep : T → Nat
  | .jet => 0
  | .bas l => 1 + depL l
def depL : List T → Nat
  | [] => 0
  | t :: r => max t.dep (depL r)
end
mutual
def T.lng : T → Nat
  | .jet => 0
  | .bas l => 1 + lngL l
def lngL : List T → Nat
  | [] => 0
  | t :: r => if t.jts = 0 then lngL r else max t.lng (lngL r)
end
mutual
def T.sht : T → Nat
  | .jet => 0
  | .bas l => 1 + shtL l
def shtL : List T → Nat
  | [] => 0
  | t :: r => if t.jts = 0 then shtL r else if jtsL r = 0 then t.sht else min t.sht (shtL r)
end
theorem sizeL_sum : ∀ l : List T, sizeL l = (l.map T.size).sum
  | [] => rfl
  | t :: r => by
    show t.size + sizeL r = _
    rw [sizeL_sum r, List.map_cons, List.sum_cons]
theorem jtsL_sum : ∀ l : List T, jtsL l = (l.map T.jts).sum
  | [] => rfl
  | t :: r => by
    show t.jts + jtsL r = _
    rw [jtsL_sum r, List.map_cons, List.sum_cons]
theorem sizeL_perm {a b : List T} (p : a.Perm b) : sizeL a = sizeL b := by rw [sizeL_sum, sizeL_sum, (p.map T.size).sum_nat]
theorem jtsL_perm {a b : List T} (p : a.Perm b) : jtsL a = jtsL b := by rw [jtsL_sum, jtsL_sum, (p.map T.jts).sum_nat]
theorem depL_perm {a b : List T} (p : a.Perm b) : depL a = depL b := by
  induction p with
  | nil => rfl
  | cons x _ ih => show max _ _ = max _ _; rw [ih]
  | swap x y l => show max _ (max _ _) = max _ (max _ _); omega
  | trans _ _ h1 h2 => exact h1.trans h2
theorem lngL_perm {a b : List T} (p : a.Perm b) : lngL a = lngL b := by
  induction p with
  | nil => rfl
  | cons x _ ih => show ite _ _ _ = ite _ _ _; rw [ih]
  | swap x y l =>
    show ite _ (ite _ _ _) (max _ (ite _ _ _)) = ite _ (ite _ _ _) (max _ (ite _ _ _))
    split <;> split <;> omega
  | trans _ _ h1 h2 => exact h1.trans h2
theorem shtL_perm {a b : List T} (p : a.Perm b) : shtL a = shtL b := by
  induction p with
  | nil => rfl
  | @cons x l1 l2 p ih =>
    show ite _ _ (ite _ _ _) = ite _ _ (ite _ _ _)
    rw [ih, jtsL_perm p]
  | swap x y l =>
    show ite (y.jts = 0) (ite (x.jts = 0) _ (ite _ _ _)) (ite (x.jts + jtsL l = 0) _ (min _ (ite (x.jts = 0) _ (ite _ _ _)))) = ite (x.jts = 0) (ite (y.jts = 0) _ (ite _ _ _)) (ite (y.jts + jtsL l = 0) _ (min _ (ite (y.jts = 0) _ (ite _ _ _))))
    by_cases h1 : x.jts = 0 <;> by_cases h2 : y.jts = 0 <;> by_cases h3 : jtsL l = 0 <;> simp [h1, h2, h3] <;> omega
  | trans _ _ h1 h2 => exact h1.trans h2
theorem size_pos : ∀ t : T, 0 < t.size
  | .jet => Nat.zero_lt_one
  | .bas l => by show 0 < 1 + sizeL l; omega
theorem canon_size : ∀ t : T, t.canon.size = t.size := by
  refine T.ind' rfl fun l ih => ?_
  rw [canon_bas]
  show 1 + sizeL (sortT (l.map T.canon)) = 1 + sizeL l
  rw [sizeL_perm (sortT_perm _), sizeL_sum, sizeL_sum, List.map_map, List.map_congr_left (f := T.size ∘ T.canon) fun t ht => ih t ht]
theorem canon_jts : ∀ t : T, t.canon.jts = t.jts := by
  refine T.ind' rfl fun l ih => ?_
  rw [canon_bas]
  show jtsL (sortT (l.map T.canon)) = jtsL l
  rw [jtsL_perm (sortT_perm _), jtsL_sum, jtsL_sum, List.map_map, List.map_congr_left (f := T.jts ∘ T.canon) fun t ht => ih t ht]
theorem depL_congr {f : T → T} : ∀ {l : List T}, (∀ t ∈ l, (f t).dep = t.dep) → depL (l.map f) = depL l
  | [], _ => rfl
  | t :: r, h => by
    show max _ _ = max _ _
    rw [h t List.mem_cons_self, depL_congr fun u hu => h u (List.mem_cons_of_mem _ hu)]
theorem canon_dep : ∀ t : T, t.canon.dep = t.dep := by
  refine T.ind' rfl fun l ih => ?_
  rw [canon_bas]
  show 1 + depL (sortT (l.map T.canon)) = 1 + depL l
  rw [depL_perm (sortT_perm _), depL_congr ih]
theorem codes_len : ∀ t : T, t.codes.length + t.jts = 2 * t.size ∧ 1 ≤ t.codes.length := by
  refine T.ind' ⟨rfl, Nat.le_refl _⟩ fun l ih => ?_
  have e : ∀ l : List T, (∀ t ∈ l, t.codes.length + t.jts = 2 * t.size ∧ 1 ≤ t.codes.length) → (codesL l).length + jtsL l = 2 * sizeL l := by
    intro l
    induction l with
    | nil => intro _; rfl
    | cons t r ihr =>
      intro h
      have h1 := (h t List.mem_cons_self).1
      have h2 := ihr fun u hu => h u (List.mem_cons_of_mem _ hu)
      show (t.codes ++ codesL r).length + (t.jts + jtsL r) = 2 * (t.size + sizeL r)
      rw [List.length_append]
      omega
  have h := e l ih
  show (40 :: (codesL l ++ [41])).length + jtsL l = 2 * (1 + sizeL l) ∧ 1 ≤ (40 :: (codesL l ++ [41])).length
  rw [List.length_cons, List.length_append, List.length_singleton]
  omega
theorem len_le {t : T} {l : List T} (h : t ∈ l) : t.size ≤ sizeL l := by
  induction l with
  | nil => cases h
  | cons u r ih =>
    show _ ≤ u.size + sizeL r
    rcases List.mem_cons.mp h with e | e
    · subst e; omega
    · have := ih e; omega
theorem length_le : ∀ l : List T, l.length ≤ sizeL l
  | [] => Nat.le_refl _
  | t :: r => by
    have := length_le r
    have := size_pos t
    show r.length + 1 ≤ t.size + sizeL r
    omega
theorem dep_le_size : ∀ t : T, t.dep + 1 ≤ t.size + 1 := by
  refine T.ind' (by decide) fun l ih => ?_
  have e : ∀ l : List T, (∀ t ∈ l, t.dep + 1 ≤ t.size + 1) → depL l ≤ sizeL l := by
    intro l
    induction l with
    | nil => intro _; exact Nat.le_refl _
    | cons t r ihr =>
      intro h
      have h1 := h t List.mem_cons_self
      have h2 := ihr fun u hu => h u (List.mem_cons_of_mem _ hu)
      show max t.dep (depL r) ≤ t.size + sizeL r
      omega
  have := e l ih
  show 1 + depL l + 1 ≤ 1 + sizeL l + 1
  omega
abbrev PSt := List (List T) × Option T
def pput (t : T) : List (List T) → PSt
  | [] => ([], some t)
  | p :: r => ((p ++ [t]) :: r, none)
def pstep (s : PSt) (c : Nat) : Option PSt := match s.2 with
  | some _ => none
  | none => if c = 40 then some ([] :: s.1, none) else if c = 111 then some (pput .jet s.1) else if c = 41 then
      (match s.1 with
      | [] => none
      | p :: r => some (pput (.bas (sortT p)) r)) else none
def prun : List Nat → PSt → Option PSt
  | [], s => some s
  | c :: r, s => (pstep s c).bind (prun r)
mutual
theorem prun_codes : ∀ (t : T) (k : List Nat) (st : List (List T)), prun (t.codes ++ k) (st, none) = prun k (pput t.canon st)
  | .jet, k, st => rfl
  | .bas l, k, st => by
    show prun (codesL l ++ [41] ++ k) ([] :: st, none) = _
    rw [List.append_assoc, prun_codesL l ([41] ++ k) [] st, List.nil_append]
    show prun k (pput (.bas (sortT (canonL l))) st) = _
    rfl
theorem prun_codesL : ∀ (l : List T) (k : List Nat) (p : List T) (st : List (List T)), prun (codesL l ++ k) (p :: st, none) = prun k ((p ++ canonL l) :: st, none)
  | [], k, p, st => by
    show prun k _ = prun k ((p ++ []) :: st, none)
    rw [List.append_nil]
  | t :: r, k, p, st => by
    show prun (t.codes ++ codesL r ++ k) _ = prun k ((p ++ (t.canon :: canonL r)) :: st, none)
    rw [List.append_assoc, prun_codes t (codesL r ++ k) (p :: st)]
    show prun (codesL r ++ k) ((p ++ [t.canon]) :: st, none) = _
    rw [prun_codesL r k (p ++ [t.canon]) st, List.append_assoc]
    rfl
end
theorem prun_all (t : T) : prun t.codes ([], none) = some ([], some t.canon) := by
  have h := prun_codes t [] []
  rw [List.append_nil] at h
  exact h
def opn (t : T) : Bool := decide (0 < t.jts)
theorem jtsL_zero : ∀ {l : List T}, jtsL l = 0 ↔ l.filter opn = []
  | [] => ⟨fun _ => rfl, fun _ => rfl⟩
  | t :: r => by
    have ih := jtsL_zero (l := r)
    show t.jts + jtsL r = 0 ↔ _
    rw [List.filter_cons]
    unfold opn at *
    by_cases h : 0 < t.jts
    · simp [h]; omega
    · simp only [h, decide_false]
      simp only [Bool.false_eq_true, if_false]
      rw [← ih]
      omega
theorem lngL_in : ∀ {l : List T}, jtsL l ≠ 0 → lngL l ∈ (l.filter opn).map T.lng
  | [], h => absurd rfl h
  | t :: r, h => by
    have ih := lngL_in (l := r)
    have h2 : t.jts + jtsL r ≠ 0 := h
    show ite _ _ _ ∈ _
    rw [List.filter_cons]
    by_cases ht : t.jts = 0
    · have e : opn t = false := by unfold opn; simp [ht]
      rw [if_pos ht, e]
      simp only [Bool.false_eq_true, if_false]
      exact ih (by omega)
    · have e : opn t = true := by unfold opn; simp; omega
      rw [if_neg ht, e, if_pos rfl, List.map_cons]
      by_cases hr : jtsL r = 0
      · have e2 : lngL r = 0 := by
          have e3 : ∀ l : List T, jtsL l = 0 → lngL l = 0 := by
            intro l
            induction l with
            | nil => intro _; rfl
            | cons u q ihq =>
              intro hq
              have h3 : u.jts + jtsL q = 0 := hq
              show ite _ _ _ = 0
              rw [if_pos (by omega)]
              exact ihq (by omega)
          exact e3 r hr
        rw [e2, Nat.max_eq_left (Nat.zero_le _)]
        exact List.mem_cons_self
      · by_cases hm : t.lng ≤ lngL r
        · rw [Nat.max_eq_right hm]
          exact List.mem_cons_of_mem _ (ih hr)
        · rw [Nat.max_eq_left (by omega)]
          exact List.mem_cons_self
theorem lngL_le : ∀ {l : List T} {t : T}, t ∈ l.filter opn → t.lng ≤ lngL l
  | [], t, h => by cases h
  | u :: r, t, h => by
    show _ ≤ ite _ _ _
    rw [List.filter_cons] at h
    by_cases ht : u.jts = 0
    · have e : opn u = false := by unfold opn; simp [ht]
      rw [e] at h
      rw [if_pos ht]
      exact lngL_le h
    · have e : opn u = true := by unfold opn; simp; omega
      rw [e, if_pos rfl] at h
      rw [if_neg ht]
      rcases List.mem_cons.mp h with z | z
      · subst z; omega
      · have := lngL_le z; omega
theorem shtL_in : ∀ {l : List T}, jtsL l ≠ 0 → shtL l ∈ (l.filter opn).map T.sht
  | [], h => absurd rfl h
  | t :: r, h => by
    have ih := shtL_in (l := r)
    have h2 : t.jts + jtsL r ≠ 0 := h
    show ite _ _ (ite _ _ _) ∈ _
    rw [List.filter_cons]
    by_cases ht : t.jts = 0
    · have e : opn t = false := by unfold opn; simp [ht]
      rw [if_pos ht, e]
      simp only [Bool.false_eq_true, if_false]
      exact ih (by omega)
    · have e : opn t = true := by unfold opn; simp; omega
      rw [if_neg ht, e, if_pos rfl, List.map_cons]
      by_cases hr : jtsL r = 0
      · rw [if_pos hr]
        exact List.mem_cons_self
      · rw [if_neg hr]
        by_cases hm : t.sht ≤ shtL r
        · rw [Nat.min_eq_left hm]
          exact List.mem_cons_self
        · rw [Nat.min_eq_right (by omega)]
          exact List.mem_cons_of_mem _ (ih hr)
theorem shtL_le : ∀ {l : List T} {t : T}, t ∈ l.filter opn → shtL l ≤ t.sht
  | [], t, h => by cases h
  | u :: r, t, h => by
    show ite _ _ (ite _ _ _) ≤ _
    rw [List.filter_cons] at h
    by_cases ht : u.jts = 0
    · have e : opn u = false := by unfold opn; simp [ht]
      rw [e] at h
      rw [if_pos ht]
      exact shtL_le h
    · have e : opn u = true := by unfold opn; simp; omega
      rw [e, if_pos rfl] at h
      rw [if_neg ht]
      rcases List.mem_cons.mp h with z | z
      · subst z; split <;> omega
      · have h1 := shtL_le z
        have h2 : jtsL r ≠ 0 := fun q => by
          rw [jtsL_zero.mp q] at z
          cases z
        rw [if_neg h2]
        omega
theorem lng_max {l : List T} {m : Int} (h : jtsL l ≠ 0) (h1 : m ∈ (l.filter opn).map fun t => (t.lng : Int)) (h2 : ∀ y ∈ (l.filter opn).map (fun t => (t.lng : Int)), y ≤ m) : m = (lngL l : Nat) := by
  obtain ⟨t, ht, e⟩ := List.mem_map.mp h1
  have a := lngL_le ht
  obtain ⟨u, hu, e2⟩ := List.mem_map.mp (lngL_in h)
  have b := h2 _ (List.mem_map.mpr ⟨u, hu, rfl⟩)
  omega
theorem sht_min {l : List T} {m : Int} (h : jtsL l ≠ 0) (h1 : m ∈ (l.filter opn).map fun t => (t.sht : Int)) (h2 : ∀ y ∈ (l.filter opn).map (fun t => (t.sht : Int)), m ≤ y) : m = (shtL l : Nat) := by
  obtain ⟨t, ht, e⟩ := List.mem_map.mp h1
  have a := shtL_le ht
  obtain ⟨u, hu, e2⟩ := List.mem_map.mp (shtL_in h)
  have b := h2 _ (List.mem_map.mpr ⟨u, hu, rfl⟩)
  omega
theorem dep_fold {l : List T} {n : Int} {r : List Int} (h : (l.map fun t => (t.dep : Int)) = n :: r) : r.foldl max n = (depL l : Nat) := by
  have go : ∀ (l : List T) (n : Int), 0 ≤ n → (l.map fun t => (t.dep : Int)).foldl max n = max n (depL l : Nat) := by
    intro l
    induction l with
    | nil =>
      intro n hn
      show n = max n (0 : Nat)
      omega
    | cons t q ih =>
      intro n hn
      rw [List.map_cons, List.foldl_cons, ih _ (by omega)]
      show max (max n (t.dep : Int)) (depL q : Nat) = max n ((max t.dep (depL q) : Nat) : Int)
      omega
  cases l with
  | nil => cases h
  | cons t q =>
    rw [List.map_cons] at h
    injection h with h1 h2
    subst h1 h2
    rw [go q _ (by omega)]
    show max (t.dep : Int) (depL q : Nat) = ((max t.dep (depL q) : Nat) : Int)
    omega
def wtL : List (List T) → Nat
  | [] => 0
  | p :: r => 1 + sizeL p + wtL r
def wtS (s : PSt) : Nat := wtL s.1 + (match s.2 with
  | some t => t.size
  | none => 0)
theorem sizeL_app (a b : List T) : sizeL (a ++ b) = sizeL a + sizeL b := by
  rw [sizeL_sum, sizeL_sum, sizeL_sum, List.map_append, List.sum_append]
theorem pput_wt (t : T) (st : List (List T)) : wtS (pput t st) = wtL st + t.size := by
  cases st with
  | nil => rfl
  | cons p r =>
    show 1 + sizeL (p ++ [t]) + wtL r + 0 = 1 + sizeL p + wtL r + t.size
    rw [sizeL_app]
    show 1 + (sizeL p + (t.size + 0)) + wtL r + 0 = _
    omega
theorem pstep_wt {s s' : PSt} {c : Nat} (h : pstep s c = some s') : wtS s' ≤ wtS s + 1 := by
  obtain ⟨st, fd⟩ := s
  unfold pstep at h
  cases fd with
  | some t => cases h
  | none =>
    simp only at h
    split at h
    · cases h
      show 1 + 0 + wtL st + 0 ≤ wtL st + 0 + 1
      omega
    · split at h
      · cases h
        rw [pput_wt]
        show wtL st + 1 ≤ wtL st + 0 + 1
        omega
      · split at h
        · cases st with
          | nil => cases h
          | cons p r =>
            cases h
            rw [pput_wt]
            show wtL r + (1 + sizeL (sortT p)) ≤ 1 + sizeL p + wtL r + 0 + 1
            rw [sizeL_perm (sortT_perm p)]
            omega
        · cases h
theorem wtL_len : ∀ st : List (List T), st.length ≤ wtL st
  | [] => Nat.le_refl _
  | p :: r => by
    have := wtL_len r
    show r.length + 1 ≤ 1 + sizeL p + wtL r
    omega
theorem prun_step {l : List Nat} {i c : Nat} {s e : PSt} (hc : l[i]? = some c) (h : prun (l.drop i) s = some e) : ∃ s', pstep s c = some s' ∧ prun (l.drop (i + 1)) s' = some e := by
  have hi : i < l.length := (List.getElem?_eq_some_iff.mp hc).1
  rw [List.drop_eq_getElem_cons hi] at h
  have e1 : l[i] = c := (List.getElem?_eq_some_iff.mp hc).2
  rw [e1] at h
  have h2 : (pstep s c).bind (prun (l.drop (i + 1))) = some e := h
  exact Option.bind_eq_some_iff.mp h2
theorem pstep_cases {st : List (List T)} {fd : Option T} {c : Nat} {s' : PSt} (h : pstep (st, fd) c = some s') : fd = none ∧ ((c = 40 ∧ s' = ([] :: st, none)) ∨ (c = 111 ∧ s' = pput .jet st) ∨ (c = 41 ∧ ∃ p r, st = p :: r ∧ s' = pput (.bas (sortT p)) r)) := by
  unfold pstep at h
  cases fd with
  | some t => cases h
  | none =>
    refine ⟨rfl, ?_⟩
    simp only at h
    split at h
    · rename_i e
      cases h
      exact .inl ⟨e, rfl⟩
    · split at h
      · rename_i e
        cases h
        exact .inr (.inl ⟨e, rfl⟩)
      · split at h
        · rename_i e
          cases st with
          | nil => cases h
          | cons p r =>
            cases h
            exact .inr (.inr ⟨e, p, r, rfl, rfl⟩)
        · cases h
end JW
namespace JW
mutual
def T.grf (p : T) : T → T
  | .jet => p
  | .bas l => .bas (sortT (grfL p l))
def grfL (p : T) : List T → List T
  | [] => []
  | t :: r => T.grf p t :: grfL p r
end
theorem grfL_map (p : T) : ∀ l : List T, grfL p l = l.map (T.grf p)
  | [] => rfl
  | t :: r => by
    show T.grf p t :: grfL p r = T.grf p t :: r.map (T.grf p)
    rw [grfL_map p r]
theorem grf_bas (p : T) (l : List T) : T.grf p (.bas l) = .bas (sortT (l.map (T.grf p))) := by
  show T.bas (sortT (grfL p l)) = _
  rw [grfL_map]
theorem grf_can {p : T} (hp : Can p) : ∀ t : T, Can (T.grf p t) := by
  refine T.ind' hp fun l ih => ?_
  rw [grf_bas]
  refine can_bas (canL_iff.mpr fun t ht => ?_)
  obtain ⟨u, hu, e⟩ := List.mem_map.mp ht
  exact e ▸ ih u hu
theorem grf_jts (p : T) : ∀ t : T, (T.grf p t).jts = t.jts * p.jts := by
  refine T.ind' (Nat.one_mul _).symm fun l ih => ?_
  rw [grf_bas]
  show jtsL (sortT (l.map (T.grf p))) = jtsL l * p.jts
  rw [jtsL_perm (sortT_perm _)]
  have go : ∀ l : List T, (∀ t ∈ l, (T.grf p t).jts = t.jts * p.jts) → jtsL (l.map (T.grf p)) = jtsL l * p.jts := by
    intro l
    induction l with
    | nil => intro _; exact (Nat.zero_mul _).symm
    | cons t r ihr =>
      intro h
      show (T.grf p t).jts + jtsL (r.map (T.grf p)) = (t.jts + jtsL r) * p.jts
      rw [h t List.mem_cons_self, ihr fun u hu => h u (List.mem_cons_of_mem _ hu), Nat.add_mul]
  exact go l ih
theorem grf_size (p : T) : ∀ t : T, (T.grf p t).size + t.jts = t.size + t.jts * p.size := by
  refine T.ind' ?_ fun l ih => ?_
  · show p.size + 1 = 1 + 1 * p.size
    omega
  rw [grf_bas]
  show 1 + sizeL (sortT (l.map (T.grf p))) + jtsL l = 1 + sizeL l + jtsL l * p.size
  rw [sizeL_perm (sortT_perm _)]
  have go : ∀ l : List T, (∀ t ∈ l, (T.grf p t).size + t.jts = t.size + t.jts * p.size) → sizeL (l.map (T.grf p)) + jtsL l = sizeL l + jtsL l * p.size := by
    intro l
    induction l with
    | nil =>
      intro _
      show 0 + 0 = 0 + 0 * p.size
      omega
    | cons t r ihr =>
      intro h
      have h1 := h t List.mem_cons_self
      have h2 := ihr fun u hu => h u (List.mem_cons_of_mem _ hu)
      show (T.grf p t).size + sizeL (r.map (T.grf p)) + (t.jts + jtsL r) = t.size + sizeL r + (t.jts + jtsL r) * p.size
      rw [Nat.add_mul]
      omega
  have := go l ih
  omega
theorem jtsL_all {l : List T} (h : jtsL l = 0) {t : T} (ht : t ∈ l) : t.jts = 0 := by
  induction l with
  | nil => cases ht
  | cons u r ih =>
    have h2 : u.jts + jtsL r = 0 := h
    rcases List.mem_cons.mp ht with e | e
    · subst e; omega
    · exact ih (by omega) e
theorem grf_closed (p : T) : ∀ t : T, Can t → t.jts = 0 → T.grf p t = t := by
  refine T.ind' (fun _ h => absurd h (by decide)) fun l ih hc h => ?_
  rw [grf_bas]
  have e : l.map (T.grf p) = l := by
    rw [show l.map (T.grf p) = l.map id from List.map_congr_left fun t ht => ih t ht (canL_iff.mp hc.2 t ht) (jtsL_all h ht), List.map_id]
  rw [e, sortT_of hc.1]
mutual
def cutT (b : T) : T → T
  | .jet => .jet
  | .bas l => if T.bas l = b then .jet else if jtsL l = 0 then .bas l else .bas (sortT (cutL b l))
def cutL (b : T) : List T → List T
  | [] => []
  | t :: r => cutT b t :: cutL b r
end
theorem cutL_map (b : T) : ∀ l : List T, cutL b l = l.map (cutT b)
  | [] => rfl
  | t :: r => by
    show cutT b t :: cutL b r = cutT b t :: r.map (cutT b)
    rw [cutL_map b r]
theorem cut_bas (b : T) (l : List T) : cutT b (.bas l) = if T.bas l = b then .jet else if jtsL l = 0 then .bas l else .bas (sortT (l.map (cutT b))) := by
  show (if T.bas l = b then T.jet else if jtsL l = 0 then .bas l else .bas (sortT (cutL b l))) = _
  rw [cutL_map]
theorem cut_self (b : T) : cutT b b = .jet := by
  cases b with
  | jet => rfl
  | bas l => rw [cut_bas, if_pos rfl]
mutual
def cov (b : T) : T → Bool
  | .jet => decide (T.jet = b)
  | .bas l => decide (T.bas l = b) || covL b l
def covL (b : T) : List T → Bool
  | [] => true
  | t :: r => cov b t && covL b r
end
theorem covL_all {b : T} : ∀ {l : List T}, covL b l = true ↔ ∀ t ∈ l, cov b t = true
  | [] => ⟨fun _ _ h => (nomatch h), fun _ => rfl⟩
  | t :: r => by
    constructor
    · intro h u hu
      have h2 : (cov b t && covL b r) = true := h
      obtain ⟨h3, h4⟩ := Bool.and_eq_true_iff.mp h2
      rcases List.mem_cons.mp hu with e | e
      · exact e ▸ h3
      · exact covL_all.mp h4 u e
    · intro h
      show (cov b t && covL b r) = true
      rw [h t List.mem_cons_self, covL_all.mpr fun u hu => h u (List.mem_cons_of_mem _ hu)]
      rfl
theorem cov_self (b : T) : cov b b = true := by
  cases b with
  | jet => rfl
  | bas l =>
    show (decide (T.bas l = .bas l) || covL (.bas l) l) = true
    rw [decide_eq_true rfl]
    rfl
theorem grf_ne {b : T} (hb : 0 < b.jts) {l : List T} : T.grf b (.bas l) ≠ b := by
  intro e
  have h1 := grf_size b (.bas l)
  have h2 := grf_jts b (.bas l)
  rw [e] at h1 h2
  have h3 : (T.bas l).jts = 1 := by
    rcases Nat.eq_zero_or_pos (T.bas l).jts with z | z
    · rw [z, Nat.zero_mul] at h2
      omega
    · exact Nat.eq_of_mul_eq_mul_right hb (by rw [← h2, Nat.one_mul])
  rw [h3] at h1
  have h4 := (codes_len (.bas l)).1
  have h5 : (40 :: (codesL l ++ [41])).length + (T.bas l).jts = 2 * (T.bas l).size := h4
  rw [List.length_cons, List.length_append, List.length_singleton] at h5
  have h6 : 1 ≤ (codesL l).length := by
    cases l with
    | nil => exact absurd h3 (by decide)
    | cons t r =>
      have := (codes_len t).2
      show 1 ≤ (t.codes ++ codesL r).length
      rw [List.length_append]
      omega
  omega
theorem cut_grf {b : T} (hb : 0 < b.jts) : ∀ t : T, Can t → cutT b (T.grf b t) = t := by
  refine T.ind' (fun _ => cut_self b) fun l ih hc => ?_
  have hne := grf_ne hb (l := l)
  rw [grf_bas] at hne ⊢
  rw [cut_bas, if_neg hne]
  have hj : jtsL (sortT (l.map (T.grf b))) = jtsL l * b.jts := by
    have := grf_jts b (.bas l)
    rw [grf_bas] at this
    exact this
  have e : (l.map (T.grf b)).map (cutT b) = l := by
    rw [List.map_map, show l.map (cutT b ∘ T.grf b) = l.map id from List.map_congr_left fun t ht => ih t ht (canL_iff.mp hc.2 t ht), List.map_id]
  split
  · rename_i hz
    rw [hj] at hz
    have hz2 : jtsL l = 0 := by
      rcases Nat.mul_eq_zero.mp hz with z | z
      · exact z
      · omega
    have := grf_closed b (.bas l) hc hz2
    rw [grf_bas] at this
    exact this
  · rw [sortT_congr ((sortT_perm (l.map (T.grf b))).map (cutT b)), e, sortT_of hc.1]
theorem cov_grf (b : T) : ∀ t : T, cov b (T.grf b t) = true := by
  refine T.ind' (cov_self b) fun l ih => ?_
  rw [grf_bas]
  show (decide (T.bas (sortT (l.map (T.grf b))) = b) || covL b (sortT (l.map (T.grf b)))) = true
  rw [show covL b (sortT (l.map (T.grf b))) = true from covL_all.mpr fun t ht => ?_, Bool.or_true]
  obtain ⟨u, hu, e⟩ := List.mem_map.mp ((sortT_perm _).mem_iff.mp ht)
  exact e ▸ ih u hu
theorem cut_size (b : T) : ∀ t : T, (cutT b t).size ≤ t.size := by
  refine T.ind' (Nat.le_refl _) fun l ih => ?_
  rw [cut_bas]
  split
  · exact size_pos (.bas l)
  split
  · exact Nat.le_refl _
  · show 1 + sizeL (sortT (l.map (cutT b))) ≤ 1 + sizeL l
    rw [sizeL_perm (sortT_perm _)]
    have go : ∀ l : List T, (∀ t ∈ l, (cutT b t).size ≤ t.size) → sizeL (l.map (cutT b)) ≤ sizeL l := by
      intro l
      induction l with
      | nil => intro _; exact Nat.le_refl _
      | cons t r ihr =>
        intro h
        have h1 := h t List.mem_cons_self
        have h2 := ihr fun u hu => h u (List.mem_cons_of_mem _ hu)
        show (cutT b t).size + sizeL (r.map (cutT b)) ≤ t.size + sizeL r
        omega
    have := go l ih
    omega
theorem dep_lt {t : T} {l : List T} (h : t ∈ l) : t.dep < (T.bas l).dep := by
  have go : ∀ l : List T, t ∈ l → t.dep ≤ depL l := by
    intro l
    induction l with
    | nil => intro h; cases h
    | cons u r ih =>
      intro h
      show t.dep ≤ max u.dep (depL r)
      rcases List.mem_cons.mp h with e | e
      · subst e; omega
      · have := ih e; omega
  have := go l h
  show t.dep < 1 + depL l
  omega
theorem cut_closed {b t : T} (h : t ≠ b) (hj : t.jts = 0) : cutT b t = t := by
  cases t with
  | jet => rfl
  | bas l =>
    have hz : jtsL l = 0 := hj
    rw [cut_bas, if_neg h, if_pos hz]
theorem cut_open {b : T} {l : List T} (h : T.bas l ≠ b) (hj : (T.bas l).jts ≠ 0) : cutT b (.bas l) = .bas (sortT (l.map (cutT b))) := by
  have hz : ¬ jtsL l = 0 := hj
  rw [cut_bas, if_neg h, if_neg hz]
theorem sizeL_map_le {f : T → T} : ∀ {l : List T}, (∀ t ∈ l, (f t).size ≤ t.size) → sizeL (l.map f) ≤ sizeL l
  | [], _ => Nat.le_refl _
  | t :: r, h => by
    have h1 := h t List.mem_cons_self
    have h2 := sizeL_map_le (l := r) fun u hu => h u (List.mem_cons_of_mem _ hu)
    show (f t).size + sizeL (r.map f) ≤ t.size + sizeL r
    omega
theorem size_mem {t : T} {l : List T} (h : t ∈ l) : t.size < (T.bas l).size := by
  have := len_le h
  show t.size < 1 + sizeL l
  omega
theorem jts_le : ∀ t : T, t.jts ≤ t.size := by
  refine T.ind' (Nat.le_refl _) fun l ih => ?_
  have go : ∀ l : List T, (∀ t ∈ l, t.jts ≤ t.size) → jtsL l ≤ sizeL l := by
    intro l
    induction l with
    | nil => intro _; exact Nat.le_refl _
    | cons t r ihr =>
      intro h
      have h1 := h t List.mem_cons_self
      have h2 := ihr fun u hu => h u (List.mem_cons_of_mem _ hu)
      show t.jts + jtsL r ≤ t.size + sizeL r
      omega
  have := go l ih
  show jtsL l ≤ 1 + sizeL l
  omega
theorem grf_sizeI (p t : T) : ((T.grf p t).size : Int) = (t.size : Nat) + (t.jts : Nat) * (((p.size : Nat) : Int) - 1) := by
  have h := grf_size p t
  rw [Int.mul_sub, Int.mul_one, ← Int.natCast_mul]
  omega
end JW
namespace JW
open PySem PySem.Spec PyProof.Rows L2
structure DefAt (K : PySem.W.Frag) (mg : Str → Option Value) (x qual : Str) (st : Stmt) (dvs : List V) (ps : List Str) : Prop where
  ex : ∃ f fd, mg x = some (.ref f) ∧ FunD K x qual (defArgs st) (defBody st) (defScope st) dvs [] f fd ∧ Binds K fd ps []
structure CallD (P : Program) (w : World) (K : PySem.W.Frag) (mg : Str → Option Value) (base : Heap) (CX : CXT) (k : Nat) (x : Str) (ps : List Str) (dvs : List V) (sp : Sp) : Prop where
  ex : ∃ f fd ds, mg x = some (.ref f) ∧ PySem.W.keepIn K (.ref f) = true ∧ Binds K fd ps ds ∧ Vals dvs ds ∧ FnOk P w K mg base CX k f fd ps sp
section
variable {P : Program} {w : World} {K : PySem.W.Frag} {mg : Str → Option Value} {base : Heap} {CX : CXT}
theorem CallD.mono {j k : Nat} {x : Str} {ps : List Str} {dvs : List V} {sp : Sp} (c : CallD P w K mg base CX j x ps dvs sp) (h : j ≤ k) : CallD P w K mg base CX k x ps dvs sp := by
  obtain ⟨f, fd, ds, h1, h2, h3, h4, F⟩ := c.ex
  exact ⟨f, fd, ds, h1, h2, h3, h4, F.mono h⟩
theorem okF {x qual : Str} {params : Arguments} {body : List Stmt} {scope : Scope} {kws : List (Str × V)} {f : Addr} {fd : FuncData} {N ps : List Str} {k : Nat} {sp : Sp} {dvs : List V} (F : FunD K x qual params body scope dvs kws f fd) (S : FnScope N ps scope)
    (len : ∀ vs H Q E, sp vs H Q E → vs.length = ps.length)
    (hbody : ∀ (cdv : Value) (A : Around) (outer : List Env) (s : Shared) (H : Hp) (vs : List V) (Q : VK) (E : XK), Room k (A.deeper (envOfC qual scope s.heap.objs.size f cdv)) → sp vs H Q E →
      ∃ t, PSs (cxOf CX P w K mg base N qual scope f cdv A outer s H E).nox body t ∧ t { nx := fun _ H' => Q .non H', rt := Q } (start N vs) H) : FnOk P w K mg base CX (k + 1) f fd ps sp :=
  F.ok S len fun cdv A outer s H vs Q E hr h => by
    obtain ⟨t, h, q⟩ := hbody cdv A outer s H vs Q E hr h
    exact ⟨t, h.nox, q⟩
theorem DefAt.ok {x qual : Str} {st : Stmt} {N ps : List Str} {k : Nat} {sp : Sp} {dvs : List V} (D : DefAt K mg x qual st dvs ps) (S : FnScope N ps (defScope st)) (len : ∀ vs H Q E, sp vs H Q E → vs.length = ps.length)
    (hbody : ∀ (f : Addr) (cdv : Value) (A : Around) (outer : List Env) (s : Shared) (H : Hp) (vs : List V) (Q : VK) (E : XK), Room k (A.deeper (envOfC qual (defScope st) s.heap.objs.size f cdv)) → sp vs H Q E →
      ∃ t, PSs (cxOf CX P w K mg base N qual (defScope st) f cdv A outer s H E).nox (defBody st) t ∧ t { nx := fun _ H' => Q .non H', rt := Q } (start N vs) H) : CallD P w K mg base CX (k + 1) x ps [] sp := by
  obtain ⟨f, fd, h1, F, b⟩ := D.ex
  refine ⟨f, fd, [], h1, F.kp, b, .nil, F.ok S len fun cdv A outer s H vs Q E hr h => ?_⟩
  obtain ⟨t, h, q⟩ := hbody f cdv A outer s H vs Q E hr h
  exact ⟨t, h.nox, q⟩
end
section
variable {X : Cx} {CX : CXT} {k : Nat} {ps : List Str} {sp : Sp} {dvs : List V} {E : XK} {x : Str} {p pos : Pos} {e : Expr} {es : List Expr} {t : TA}
theorem pe_callD (C : CallD X.prog X.w X.K X.mg X.base CX k x ps dvs sp) (hr : Room k X.A) (hg : Gl X x) (hx : Passes CX X E) (ha : PA X (e :: es) t) (hdb : (x == ("__debug__" : Str)) = false := by decide)
    (he : starEach (e :: es) X.env = (false, eval e X.env) :: starEach es X.env := by rfl) (hpl : (backTo pos (starEach es X.env)).any (·.1) = false := by rfl) : PE X (.Call (.Name x p) (e :: es) [] pos) (tCall sp dvs E t) := by
  obtain ⟨f, fd, ds, h1, h2, h3, h4, F⟩ := C.ex
  exact pe_call F hr hg h1 h2 h3 h4 hx ha hdb he hpl
end
section
variable {X : Cx} {e : Expr} {st : Stmt}
theorem ep_mono {pins : List (Addr × Obj)} {σ : L2.St} {Q Q' : VK} {u : Value} {s' : Shared} (h : EP X pins σ Q u s') (k : ∀ v H, Q v H → Q' v H) : EP X pins σ Q' u s' := by
  obtain ⟨v, H, I, r, q⟩ := h
  exact ⟨v, H, I, r, k v H q⟩
def tVia (t : TE) : TE := fun σ H Q => ∃ R : VK, t σ H R ∧ ∀ v H', R v H' → Q v H'
theorem pe_via {t : TE} (h : PE X e t) : PE X e (tVia t) := ⟨fun pins s σ H Q I ⟨R, hw, q⟩ => thn (h.run pins s σ H _ I hw) fun _ _ z => ep_mono z q⟩
def tsVia (t : TS) : TS := fun D σ H => ∃ R : L2.St → Hp → Prop, t { D with nx := R } σ H ∧ ∀ σ' H', R σ' H' → D.nx σ' H'
theorem ps_via {t : TS} (h : PS X st t) : PS X st (tsVia t) := ⟨fun pins s σ H D I ⟨R, hw, q⟩ =>
  thn (h.run pins s σ H _ I hw) fun f s' z => by
    cases f with
    | next =>
      obtain ⟨σ', H', I', r⟩ := z
      exact ⟨σ', H', I', q σ' H' r⟩
    | brk => exact z
    | cont => exact z
    | ret u => exact z⟩
end
theorem nI_sum : ∀ xs : List Nat, (xs.map fun x : Nat => (x : Int)).sum = ((xs.sum : Nat) : Int)
  | [] => rfl
  | x :: r => by rw [List.map_cons, List.sum_cons, List.sum_cons, nI_sum r]; omega
theorem eraseIdx_perm {α : Type} : ∀ {l : List α} {i : Nat} (h : i < l.length), (l[i] :: l.eraseIdx i).Perm l
  | [], _, h => absurd h (Nat.not_lt_zero _)
  | a :: l, 0, _ => List.Perm.refl _
  | a :: l, i + 1, h => by
    have hi : i < l.length := Nat.lt_of_succ_lt_succ h
    exact (List.Perm.swap a l[i] (l.eraseIdx i)).trans ((eraseIdx_perm hi).cons a)
theorem sz1 : 1 ≤ sizeLine := by decide
theorem sz2 : 2 ≤ sizeLine := by decide
theorem sz5 : 5 ≤ sizeLine := by decide
end JW
namespace L2
open PySem PySem.Spec PyProof.Rows
section
variable {H H' H1 H2 : Hp} {a b p : Addr} {o u : HO}
theorem Same.new (s : Same H H') (hp : H' p = none) : Same H (upd H' p o) := fun c w e => by
  rw [upd_ne (ne_of_none (s _ _ e) hp)]
  exact s _ _ e
theorem Same.mine (s : Same H H') (hp : H p = none) : Same H (upd H' p o) := fun c w e => by
  rw [upd_ne (ne_of_none e hp)]
  exact s _ _ e
theorem upd_old (h : H a = some o) (hp : H p = none) : upd H p u a = some o := by
  rw [upd_ne (ne_of_none h hp)]
  exact h
end
end L2
namespace JW
open PySem PySem.Spec PyProof.Rows L2
section
variable {X : Cx} {K : PySem.W.Frag} {e : Expr} {te : TE} {tg : Expr} {pos : Pos}
theorem ix_listK (h : X.K = K) : IxR X (rIxL K) := h ▸ ix_list
theorem ix_tupK (h : X.K = K) : IxR X (rIxT K) := h ▸ ix_tup
def rLen (K : PySem.W.Frag) : List V → Hp → VK → Prop := fun xs H Q => ∃ x n, xs = [x] ∧ LenV K x H n ∧ Q (.int n) H
theorem call_lenK (h : X.K = K) : CallR X (.builtin "len") (rLen K) := h ▸ call_len
end
end JW
namespace JW
open PySem PySem.Spec PyProof.Rows L2
section
variable {X : Cx} {K : PySem.W.Frag}
end
theorem seqIndex_nat {v : Int} {n : Nat} (h0 : 0 ≤ v) (h1 : v < (n : Nat)) : seqIndex? v n = some v.toNat := PyProof.Rows.seqIndex_at h0 h1
theorem dget {H : Hp} {a : Addr} {kvs : List (Key × V)} {k : Str} {v : V} (e : H a = some (.dK kvs)) (h : valV kvs (.inr k) = some v) : DGet H a (.str k) (some v) := by
  have z := DGet.k (k := Sum.inr k) e
  rw [h] at z
  exact z
theorem dput {H : Hp} {a : Addr} {kvs kvs' : List (Key × V)} {k : Str} {v : V} (e : H a = some (.dK kvs)) (hl : kvs.length < sizeLine) (h : putK kvs (.inr k) v = kvs') : DPut H a (.str k) v (upd H a (.dK kvs')) := by
  have z := DPut.k (k := Sum.inr k) (v := v) e hl
  rw [h] at z
  exact z
def Same2 (d g : Addr) (H H' : Hp) : Prop := ∀ b o, b ≠ d → b ≠ g → H b = some o → H' b = some o
theorem Same2.refl (d g : Addr) (H : Hp) : Same2 d g H H := fun _ _ _ _ h => h
theorem Same2.trans {d g : Addr} {H H1 H2 : Hp} (a : Same2 d g H H1) (b : Same2 d g H1 H2) : Same2 d g H H2 := fun c o h1 h2 h => b c o h1 h2 (a c o h1 h2 h)
theorem Same2.new {d g p : Addr} {H H1 : Hp} {o : HO} (a : Same2 d g H H1) (hp : H1 p = none) : Same2 d g H (upd H1 p o) := fun c u h1 h2 h => by rw [upd_ne (ne_of_none (a c u h1 h2 h) hp)]; exact a c u h1 h2 h
theorem Same2.same {d g : Addr} {H H1 H2 : Hp} (a : Same2 d g H H1) (b : Same H1 H2) : Same2 d g H H2 := fun c o h1 h2 h => b c o (a c o h1 h2 h)
theorem Same2.of {d g : Addr} {H H1 : Hp} (a : Same H H1) : Same2 d g H H1 := fun c o _ _ h => a c o h
theorem Same2.mine {d g : Addr} {H0 H H' : Hp} (a : Same H0 H) (hd : H0 d = none) (hg : H0 g = none) (b : Same2 d g H H') : Same H0 H' := fun c o h => b c o (ne_of_none h hd) (ne_of_none h hg) (a c o h)
def sackD (g : Addr) (a b c : Int) : List (Key × V) := [(.inr "great", .ref g), (.inr "now", .int a), (.inr "seed", .int b), (.inr "turn", .int c)]
def SackAt (H : Hp) (d g : Addr) : Prop := ∃ (ns : List Int) (a b c : Int), d ≠ g ∧ H d = some (.dK (sackD g a b c)) ∧ H g = some (.lst (ns.map V.int))
theorem SackAt.same {H H' : Hp} {d g : Addr} (h : SackAt H d g) (s : Same H H') : SackAt H' d g := by
  obtain ⟨ns, a, b, c, n, e1, e2⟩ := h
  exact ⟨ns, a, b, c, n, s _ _ e1, s _ _ e2⟩
theorem SackAt.off {H : Hp} {d g p : Addr} {o : HO} (h : SackAt H d g) (h1 : d ≠ p) (h2 : g ≠ p) : SackAt (upd H p o) d g := by
  obtain ⟨ns, a, b, c, n, e1, e2⟩ := h
  exact ⟨ns, a, b, c, n, by rw [upd_ne h1]; exact e1, by rw [upd_ne h2]; exact e2⟩
theorem SackAt.ne {H : Hp} {d g p : Addr} (h : SackAt H d g) (hp : H p = none) : p ≠ d ∧ p ≠ g := by
  obtain ⟨ns, a, b, c, n, e1, e2⟩ := h
  exact ⟨(ne_of_none e1 hp).symm, (ne_of_none e2 hp).symm⟩
end JW
namespace JW
open PySem PySem.Spec PyProof.Rows L2
section
variable {prog : Program} {w : World} {A : Around} {E : Value → Shared → Prop} {s : Shared} {K : PySem.W.Frag} {x C f : Addr} {ox : Obj} {od : Option Obj} {b tb : Value}
theorem ne_own {Q : Value → Shared → Prop} (hu : A.units + 1 < cLine) (X : K.In s.heap) (I : PySem.W.InstAt s.heap x ox C od) (hb : PySem.W.Looks (model prog w) s.heap (typeOf b) tb) (hn : PySem.W.notFirst K C tb = true)
    (hne : PySem.W.findIn K (.ref C) "__ne__" = some (some (.builtin "object.__ne__"))) (heq : PySem.W.findIn K (.ref C) "__eq__" = some (some (.ref f))) (hf : PySem.W.isFn K (.ref f) = true) (hob : PySem.W.subIn K (.ref C) (.type "object") = some true)
    (h : wpAny (model prog w) A.in1 (call (.ref f) [.ref x, b]) (fun v s' => ∃ k, v = .bool k ∧ Q (.bool (!k)) s') E s) : wpAny (model prog w) A (richCompare .NotEq (.ref x) b) Q E s := by
  have one : wpAny (model prog w) A (tryCompare (.ref x) (cmpInfo .NotEq).2.1 b) (fun r s' => ∃ v, r = some v ∧ Q v s') E s := by
    unfold tryCompare
    have hc : wpAny (model prog w) A (call (.builtin "object.__ne__") [.ref x, b]) (fun v s' => ∃ k, v = .bool (!k) ∧ Q (.bool (!k)) s') E s := by
      refine wpAny_call (codeAny_call_builtin F.cmp_object.ne.plain F.cmpEntry_ne ?_)
      refine PySem.W.check_slot F.cmpKind_ne F.cmpSplit_ne (I.type.andThen (PySem.W.looks_subIn X hob)) (F.cmpArgs_ne _ _) ?_
      unfold Builtin.«object.__ne__»
      repeat (first
        | with_reducible refine wpAny_cRoomFor hu ?_
        | (refine wpAny_bind (m := callSpecialIfBound? (.ref x) (Str.ofString "__eq__") [b])
            (PySem.W.ifBound_K X I heq hf (wpAny_mono h (fun r s' hr => by
              obtain ⟨k, rfl, hq⟩ := hr
              repeat (first | exact ⟨k, rfl, hq⟩ | exact wpAny_pure ⟨k, rfl, hq⟩ | exact wpAny_truthy_bool ⟨k, rfl, hq⟩ | (refine wpAny_bind (m := truthy (.bool _)) (wpAny_truthy_bool ?_)) | wp_step)) fun _ _ e => e)))
        | wp_step)
    refine wpAny_bind ?_
    simp only [callSpecialIfBound?, bindSpecialIfBound?]
    refine wpAny_holding (wpAny_bind (wpAny_bind (wpAny_bind (I.type.here ((PySem.W.looks_findIn X hne).here ?_)))))
    have fin : ∀ R : Option Value → Shared → Prop, (∀ k s', Q (.bool (!k)) s' → R (some (.bool (!k))) s') → wpAny (model prog w) A (call (.builtin "object.__ne__") ([.ref x] ++ [b]) >>= fun v => pure (some v)) R E s := fun R hR => by
      refine wpAny_bind (wpAny_mono hc (fun v s' h' => wpAny_pure ?_) fun _ _ h' => h')
      obtain ⟨k, rfl, hq⟩ := h'
      exact hR k s' hq
    refine wpAny_bind (wpAny_askSetting (wpAny_ite ?_))
    split
    · rw [F.cmp_object.ne.bind]
      exact wpAny_bind (wpAny_pure (wpAny_pure (by exact fin _ fun k s' hq => wpAny_pure ⟨_, rfl, hq⟩)))
    · rw [F.cmp_object.ne.bind]
      exact wpAny_tryCatch (wpAny_bind (wpAny_pure (wpAny_pure (by exact fin _ fun k s' hq => wpAny_pure ⟨_, rfl, hq⟩))))
  unfold richCompare
  simp only [oneThing_ref]
  refine wpAny_holding (wpAny_bind (wpAny_cRoomFor (Nat.lt_of_succ_lt hu) ?_))
  refine wpAny_bind (I.type.here (wpAny_bind (hb.here ?_)))
  split
  · rename_i q
    have e : PySem.W.subIn K tb (.ref C) = some false := by
      rcases Bool.or_eq_true_iff.mp hn with e | e
      · rw [beq_iff_eq.mp e] at q; simp at q
      · exact beq_iff_eq.mp e
    refine wpAny_bind ((PySem.W.looks_subIn X e).here ?_)
    simp only [Bool.false_eq_true, if_false]
    refine wpAny_bind (wpAny_mono one (fun r s' z => ?_) fun _ _ e => e)
    obtain ⟨v, rfl, hq⟩ := z
    exact wpAny_pure hq
  · refine wpAny_bind (wpAny_pure ?_)
    simp only [Bool.false_eq_true, if_false]
    refine wpAny_bind (wpAny_mono one (fun r s' z => ?_) fun _ _ e => e)
    obtain ⟨v, rfl, hq⟩ := z
    exact wpAny_pure hq
end
structure MethD (P : Program) (w : World) (K : PySem.W.Frag) (mg : Str → Option Value) (base : Heap) (CX : CXT) (k : Nat) (C : Addr) (m : Str) (ps : List Str) (dvs : List V) (sp : Sp) : Prop where
  ex : ∃ f fd ds, Meth K C m f ∧ Binds K fd ps ds ∧ Vals dvs ds ∧ FnOk P w K mg base CX k f fd ps sp
structure MethAt (K : PySem.W.Frag) (C : Addr) (m qual : Str) (st : Stmt) (ps : List Str) : Prop where
  ex : ∃ f fd, Meth K C m f ∧ FunD K m qual (defArgs st) (defBody st) (defScope st) [] [] f fd ∧ Binds K fd ps []
section
variable {P : Program} {w : World} {K : PySem.W.Frag} {mg : Str → Option Value} {base : Heap} {CX : CXT} {C : Addr}
theorem MethD.mono {j k : Nat} {m : Str} {ps : List Str} {dvs : List V} {sp : Sp} (c : MethD P w K mg base CX j C m ps dvs sp) (h : j ≤ k) : MethD P w K mg base CX k C m ps dvs sp := by
  obtain ⟨f, fd, ds, h1, h2, h3, F⟩ := c.ex
  exact ⟨f, fd, ds, h1, h2, h3, F.mono h⟩
theorem MethAt.ok {m qual : Str} {st : Stmt} {N ps : List Str} {k : Nat} {sp : Sp} (D : MethAt K C m qual st ps) (S : FnScope N ps (defScope st)) (len : ∀ vs H Q E, sp vs H Q E → vs.length = ps.length)
    (hbody : ∀ (f : Addr) (cdv : Value) (A : Around) (outer : List Env) (s : Shared) (H : Hp) (vs : List V) (Q : VK) (E : XK), Room k (A.deeper (envOfC qual (defScope st) s.heap.objs.size f cdv)) → sp vs H Q E →
      ∃ t, PSs (cxOf CX P w K mg base N qual (defScope st) f cdv A outer s H E).nox (defBody st) t ∧ t { nx := fun _ H' => Q .non H', rt := Q } (start N vs) H) : MethD P w K mg base CX (k + 1) C m ps [] sp := by
  obtain ⟨f, fd, h1, F, b⟩ := D.ex
  exact ⟨f, fd, [], h1, b, .nil, okF F S len fun cdv A outer s H vs Q E hr h => hbody f cdv A outer s H vs Q E hr h⟩
end
section
variable {X : Cx} {CX : CXT} {k : Nat} {C : Addr} {ps : List Str} {sp : Sp} {dvs : List V} {E : XK} {m : Str} {pos apos : Pos} {o e : Expr} {es : List Expr} {t : TA} {ta : TE}
theorem pe_methD0 {pl : Sem Bool} (c : Cls X.K C) (M : MethD X.prog X.w X.K X.mg X.base CX k C m ps dvs sp) (hr : Room k X.A) (hx : Passes CX X E) (he : PE X o ta)
    (ht : eval (.Call (.Attribute o m apos) [] [] pos) X.env = (do
      let ov ← eval o X.env
      standAt apos.atName
      let (f, first) ← holding [ov] (getMethod ov m pl)
      callWith pos f first (backTo pos (starEach [] X.env)) (backToKw pos (keywordEach [] X.env))) := by rfl) : PE X (.Call (.Attribute o m apos) [] [] pos) (tMeth C m sp dvs E ta tNil) := by
  obtain ⟨f, fd, ds, h1, h2, h3, F⟩ := M.ex
  exact pe_meth0 he c h1 F hr h2 h3 hx ht
def rOwn (C : Addr) (sp : Sp) (E : XK) : R2 := fun x y H Q => ∃ a dx fs b dy gs, x = .ref a ∧ y = .ref b ∧ H a = some (.ins C dx fs) ∧ H b = some (.ins C dy gs) ∧ sp [x, y] H (fun v H' => v ≠ .non ∧ Q v H') E
theorem relV_back {v : V} {u : Value} {s : Shared} {Q : Value → Shared → Prop} (r : RelV v u) (h : Q u s) : PySem.W.CmpBack Q u s := by
  cases v with
  | non => cases r; exact h
  | bl _ => cases r; exact h
  | int _ => obtain ⟨t, rfl⟩ := r; exact h
  | str _ => obtain ⟨t, rfl⟩ := r; exact h
  | byt _ => obtain ⟨t, rfl⟩ := r; exact h
  | flt _ => obtain ⟨t, rfl⟩ := r; exact h
  | ref _ => cases r; exact h
  | ty _ => cases r; exact h
theorem op_own {op : Operator} (hc : PySem.W.selfFirst X.K C = true) (M : MethD X.prog X.w X.K X.mg X.base CX k C (PySem.dunder op.info.2) ps [] sp) (hr : Room k X.A) (hx : Passes CX X E) : OpR X (binaryOp op) (rOwn C sp E) := by
  intro pins s σ H x y v u Q I rx ry h
  obtain ⟨a, dx, fs, b, dy, gs, rfl, rfl, ha, hb, q⟩ := h
  cases rx
  cases ry
  obtain ⟨f, fd, ds, hm, hbd, hd, F⟩ := M.ex
  cases hd
  obtain ⟨mA, J, _⟩ := ins_get I.hok ha
  obtain ⟨mB, J', _⟩ := ins_get I.hok hb
  obtain ⟨od, J, _⟩ := J.look
  obtain ⟨od', J', _⟩ := J'.look
  obtain ⟨m, hF⟩ := I.fr
  refine PySem.W.binop_K hF I.ok.mod.kin J J'.type hc hm.at_ hm.fn ?_
  refine wpAny_mono (run_fn (us := [.ref a, .ref b]) (vs := [.ref a, .ref b]) F hr hbd .nil hx I (.cons rfl (.cons rfl .nil)) q) (fun v s' z => ?_) fun _ _ z => z
  obtain ⟨v', H', I', r, _, q'⟩ := z
  exact relV_back r ⟨v', H', I', r, q'⟩
def rOwnEq (C : Addr) (sp : Sp) (E : XK) (neg : Bool) : R2 := fun x y H Q => ∃ a dx fs b dy gs, x = .ref a ∧ y = .ref b ∧ H a = some (.ins C dx fs) ∧ H b = some (.ins C dy gs) ∧
  sp [x, y] H (fun v H' => ∃ k, v = .bl k ∧ Q (.bl (if neg then !k else k)) H') E
theorem op_own_eq (M : MethD X.prog X.w X.K X.mg X.base CX k C "__eq__" ps [] sp) (hr : Room k X.A) (hx : Passes CX X E) : OpR X (compareOp .Eq) (rOwnEq C sp E false) := by
  intro pins s σ H x y v u Q I rx ry h
  obtain ⟨a, dx, fs, b, dy, gs, rfl, rfl, ha, hb, q⟩ := h
  cases rx
  cases ry
  obtain ⟨f, fd, ds, hm, hbd, hd, F⟩ := M.ex
  cases hd
  obtain ⟨mA, J, _⟩ := ins_get I.hok ha
  obtain ⟨mB, J', _⟩ := ins_get I.hok hb
  obtain ⟨od, J, _⟩ := J.look
  obtain ⟨od', J', _⟩ := J'.look
  obtain ⟨m, hF⟩ := I.fr
  refine PySem.W.cmp_K (op := .Eq) (tb := .ref C) hr.units0 hF I.ok.mod.kin J J'.type (by simp [PySem.W.notFirst]) hm.at_ hm.fn ?_
  refine wpAny_mono (run_fn (us := [.ref a, .ref b]) (vs := [.ref a, .ref b]) F hr hbd .nil hx I (.cons rfl (.cons rfl .nil)) q) (fun v s' z => ?_) fun _ _ z => z
  obtain ⟨v', H', I', r, k, rfl, q'⟩ := z
  exact relV_back r ⟨_, H', I', r, q'⟩
theorem op_own_ne (hne : PySem.W.findIn X.K (.ref C) "__ne__" = some (some (.builtin "object.__ne__"))) (hob : PySem.W.subIn X.K (.ref C) (.type "object") = some true) (M : MethD X.prog X.w X.K X.mg X.base CX k C "__eq__" ps [] sp) (hr : Room (k + 1) X.A) (hx : Passes CX X.nox E) : OpR X (compareOp .NotEq) (rOwnEq C sp E true) := by
  intro pins s σ H x y v u Q I rx ry h
  obtain ⟨a, dx, fs, b, dy, gs, rfl, rfl, ha, hb, q⟩ := h
  cases rx
  cases ry
  obtain ⟨f, fd, ds, hm, hbd, hd, F⟩ := M.ex
  cases hd
  obtain ⟨mA, J, _⟩ := ins_get I.hok ha
  obtain ⟨mB, J', _⟩ := ins_get I.hok hb
  obtain ⟨od, J, _⟩ := J.look
  obtain ⟨od', J', _⟩ := J'.look
  refine ne_own (tb := .ref C) (hu_of hr) I.kIn J J'.type (by simp [PySem.W.notFirst]) hne hm.at_ hm.fn hob ?_
  have hl : ([Value.ref a, Value.ref b] ++ []).length = ps.length := by
    rw [← F.len _ _ _ _ q]
    rfl
  refine wpAny_call (codeAny_mono (F.run X.A.in1 X.stack s H ⟨[.ref a, .ref b], []⟩ [.ref a, .ref b] [.ref a, .ref b] _ E hr.in1 I.env0.in1 (by
    have := hbd s [.ref a, .ref b] I.kIn hl
    simpa using this) (.cons rfl (.cons rfl .nil)) q) fun r s' hq => ?_)
  cases r with
  | error er => exact False.elim (hx pins σ H s er s' (I.wish _) hq)
  | ok fl =>
    cases fl with
    | ret u =>
      obtain ⟨v', H', I', r, k, rfl, q'⟩ := I.after hq
      cases r
      exact ⟨k, rfl, .bl (!k), H', I', rfl, q'⟩
    | next => exact False.elim hq
    | brk => exact False.elim hq
    | cont => exact False.elim hq
structure PropD (P : Program) (w : World) (K : PySem.W.Frag) (mg : Str → Option Value) (base : Heap) (CX : CXT) (k : Nat) (C : Addr) (f : Str) (sp : Sp) : Prop where
  ex : ∃ p g fd, PropOf K C f p g ∧ Binds K fd ["self"] [] ∧ FnOk P w K mg base CX k g fd ["self"] sp
structure PropAt (K : PySem.W.Frag) (C : Addr) (m qual : Str) (st : Stmt) : Prop where
  ex : ∃ p g fd, PropOf K C m p g ∧ FunD K m qual (defArgs st) (defBody st) (defScope st) [] [] g fd ∧ Binds K fd ["self"] []
theorem pe_propD {f : Str} (c : Cls X.K C) (M : PropD X.prog X.w X.K X.mg X.base CX k C f sp) (hr : Room (k + 1) X.A) (hx : Passes CX X.nox E) (he : PE X e ta) (hab : attributeBase e f X.env (eval e X.env) = eval e X.env) : PE X (.Attribute e f pos) (tProp C sp [] E ta) := by
  obtain ⟨p, g, fd, hp, hb, F⟩ := M.ex
  exact pe_prop he c hp F hr hb .nil hx hab
end
end JW
namespace JW
open PySem PySem.Spec PyProof.Rows L2
section
variable {X : Cx} {pins : List (Addr × Obj)} {σ : L2.St} {H : Hp} {s : Shared}
theorem repin {q : Addr} {o o' : Obj} {h' : Heap} {t' : Nat} (I : Inv X ((q, o) :: pins) σ H s) (hs : X.s_0.heap.objs.size ≤ q) (hp : ∀ p ∈ X.pn ++ pins, p.1 ≠ q)
    (k : ∀ b u, b ≠ q → s.heap.get? b = some u → h'.get? b = some u) (hq : h'.get? q = some o') (hc : ∀ v, o'.data ≠ .cell v) : Inv X ((q, o') :: pins) σ H { s with heap := h', toks := t' } := by
  have hpin := I.pin (q, o) (List.mem_append_right _ List.mem_cons_self)
  have I1 := (ClX.unpin I).turned (t' := t') k hpin.2.1 hpin.2.2.1 (.inr hs) (fun x c e z => by
    obtain ⟨v, o2, ho, hdat⟩ := I.cell x c e
    rw [z] at ho
    have h2 : s.heap.get? q = some o := hpin.1
    rw [h2] at ho
    cases ho
    exact hpin.2.2.2.2 v hdat) hp
  refine I1.pins_of fun p hp' => ?_
  rcases List.mem_cons.mp hp' with e | e
  · subst e
    exact ⟨hq, hpin.2.1, hpin.2.2.1, hpin.2.2.2.1, hc⟩
  · exact I1.pin p (List.mem_append_right _ e)
theorem track {a : Addr} {o : Obj} {u : HO} (I : Inv X ((a, o) :: pins) σ H s) (hs : X.s_0.heap.objs.size ≤ a) (hp : ∀ p ∈ X.pn ++ pins, p.1 ≠ a) (new : ObjOk X.prog X.w (upd H a u) s.heap a u) : Inv X pins σ (upd H a u) s := by
  have hpin := I.pin (a, o) (List.mem_append_right _ List.mem_cons_self)
  have hn : H a = none := hpin.2.1
  have I0 := ClX.unpin I
  have ne : ∀ b w, H b = some w → b ≠ a := fun b w e => ne_of_none e hn
  refine ⟨I0.ok, I0.os, I0.bare, ⟨I0.base.keep, I0.base.slot, fun b w e n hx => ?_, I0.base.there, fun b xs e => ?_, fun b w xs e => ?_, fun b ps e => ?_⟩, I0.loc, I0.cell, ?_, fun x c e => ?_, fun p hp' => ?_, fun b w e => ?_, I0.len⟩
  · rw [upd_ne (Nat.ne_of_lt (Nat.lt_of_lt_of_le (Heap.lt_size e) hs))]
    exact I0.base.free b w e n hx
  · have q := I0.base.tups b xs e
    rw [upd_ne (ne b _ q)]
    exact q
  · have q := I0.base.frzs b w xs e
    rw [upd_ne (ne b _ q)]
    exact q
  · obtain ⟨more, q⟩ := I0.base.tbls b ps e
    exact ⟨more, by rw [upd_ne (ne b _ q)]; exact q⟩
  · rw [upd_ne (Ne.symm hpin.2.2.1)]
    exact I0.free
  · rw [upd_ne (fun z => by
      obtain ⟨v, o2, ho, hdat⟩ := I0.cell x c e
      rw [z] at ho
      have h2 : s.heap.get? a = some o := hpin.1
      rw [h2] at ho
      cases ho
      exact hpin.2.2.2.2 v hdat)]
    exact I0.freeC x c e
  · obtain ⟨h1, h2, h3⟩ := I0.pin p hp'
    exact ⟨h1, by rw [upd_ne (hp p hp')]; exact h2, h3⟩
  · by_cases hb : b = a
    · rw [hb, upd_same] at e
      cases e
      rw [hb]
      exact new
    · rw [upd_ne hb] at e
      exact (I0.hok b w e).stay (fun c v _ q => q) (fun c q => by rw [upd_ne (ne c _ q)]; exact q) fun c xs q => by rw [upd_ne (ne c _ q)]; exact q
end
theorem strs_snoc {z : Str} {t : Tok} : ∀ {vs : List Value} {ss : List Str}, StrsAre vs ss → StrsAre (vs ++ [.str z t]) (ss ++ [z])
  | _, _, .nil => .cons z t .nil
  | _, _, .cons x u h => .cons x u (strs_snoc h)
theorem zip_mapL {α β γ : Type} (f : α → γ) : ∀ (xs : List α) (ys : List β), (xs.map f).zip ys = (xs.zip ys).map fun p => (f p.1, p.2)
  | [], _ => rfl
  | _ :: _, [] => rfl
  | x :: xs, y :: ys => by rw [List.map_cons, List.zip_cons_cons, List.zip_cons_cons, List.map_cons, zip_mapL f xs ys]
def Keyd (zs : List Str) (vs out : List Value) : Prop := ∃ ps : List (Str × Value), ps.Perm (zs.zip vs) ∧ ps.Pairwise (fun p q => ¬ q.1.cps.toList < p.1.cps.toList) ∧ out = ps.map (·.2)
theorem key_out {keys : Array Value} {vs : List Value} {zs : List Str} (hk : StrsAre keys.toList zs) {xs : Array Keyed} (hp : xs.Perm (keys.zip vs.toArray)) (hs : SortedToK strKind xs xs.size) : Keyd zs vs (xs.map (·.2)).toList := by
  have hl : xs.toList.Perm (keys.toList.zip vs) := by rw [← PyProof.Rows.ksk_zip]; exact Array.perm_iff_toList_perm.mp hp
  have hmem : ∀ p, p ∈ xs.toList → ∃ z t, p.1 = .str z t := fun p hp' => hk.all p.1 (List.of_mem_zip (hl.mem_iff.mp hp')).1
  refine ⟨xs.toList.map fun p => (strOf p.1, p.2), ?_, ?_, by rw [Array.toList_map, List.map_map]; rfl⟩
  · have h1 := hl.map fun p : Value × Value => (strOf p.1, p.2)
    have e : (keys.toList.zip vs).map (fun p : Value × Value => (strOf p.1, p.2)) = zs.zip vs := by
      rw [← hk.strs, zip_mapL]
    rw [e] at h1
    exact h1
  · rw [List.pairwise_iff_getElem]
    intro i j hi hj hij
    have hi' : i < xs.size := by simpa using hi
    have hj' : j < xs.size := by simpa using hj
    have h1 := hs i j (Nat.le_of_lt hij) hj'
    obtain ⟨x, t, ex⟩ := hmem xs[i] (by simp)
    obtain ⟨y, u, ey⟩ := hmem xs[j] (by simp)
    rw [KK_str hi' (x := x) (t := t) (q := xs[i].2) (Prod.ext ex rfl), KK_str hj' (x := y) (t := u) (q := xs[j].2) (Prod.ext ey rfl)] at h1
    have h2 : decide (y.cps.toList < x.cps.toList) = false := h1
    simp only [List.getElem_map, Array.getElem_toList]
    rw [show strOf xs[i].1 = x by rw [ex]; rfl, show strOf xs[j].1 = y by rw [ey]; rfl]
    exact of_decide_eq_false h2

section
variable {X : Cx} {pins : List (Addr × Obj)} {σ : L2.St} {A : Around} {E : Value → Shared → Prop} {a kS : Addr} {vs : List Value} {xs : List V} {zs : List Str} {R : Hp → Prop} {e1 : Nat} {P : PySem.Fin → Shared → Prop}
structure Own2 (X : Cx) (pins : List (Addr × Obj)) (a kS : Addr) : Prop where
  sk : X.s_0.heap.objs.size ≤ kS
  sa : X.s_0.heap.objs.size ≤ a
  ka : kS ≠ a
  pk : ∀ p ∈ X.pn ++ pins, p.1 ≠ kS
  pa : ∀ p ∈ X.pn ++ pins, p.1 ≠ a
theorem Own2.pk' {o : Obj} (O : Own2 X pins a kS) : ∀ p ∈ X.pn ++ ((a, o) :: pins), p.1 ≠ kS := fun p hp => by
  rcases List.mem_append.mp hp with h | h
  · exact O.pk p (List.mem_append_left _ h)
  · rcases List.mem_cons.mp h with h | h
    · rw [h]
      exact O.ka.symm
    · exact O.pk p (List.mem_append_right _ h)
theorem noCell (ys : Array Value) (n : Nat) : ∀ v, (seqObj "list" ys n).data ≠ .cell v := fun v z => by cases z
theorem key_tail {keys : Array Value} {e : Nat} {H : Hp} {s : Shared} {st : SortSt} (O : Own2 X pins a kS) (I : Inv X ((kS, seqObj "list" keys e) :: (a, seqObj "list" #[] e1) :: pins) σ H s) (hR : R H) (hk : StrsAre keys.toList zs) (hlen : zs.length = vs.length) (hZ : vs.length ≤ sizeLine)
    (hp : (arrOf st).Perm (keys.zip vs.toArray)) (hs : SortedToK strKind (arrOf st) (arrOf st).size) (hfl : failedOf st = none)
    (h : ∀ s' out c, Inv X ((a, seqObj "list" out c) :: pins) σ H s' → R H → Keyd zs vs out.toList → P (.done (.ret .none)) s') :
    wpAny (model X.prog X.w) A (ksk_tail a false e1 (.ref kS) st) P E s := by
  have hZ2 := hZ
  rw [sizeLine_eq] at hZ2
  have hsz : keys.size = vs.length := by
    have h1 := hk.length
    rw [Array.length_toList] at h1
    omega
  have hsz2 : (arrOf st).size = vs.length := by rw [hp.size_eq, Array.size_zip, hsz, List.size_toArray, Nat.min_self]
  have nk : s.heap.get? kS = some (seqObj "list" keys e) := (I.pin (kS, _) (List.mem_append_right _ List.mem_cons_self)).1
  have na : s.heap.get? a = some (seqObj "list" #[] e1) := (I.pin (a, _) (List.mem_append_right _ (List.mem_cons_of_mem _ List.mem_cons_self))).1
  have s1 := Heap.SameBut.update s.heap kS (Obj.mapSeq fun _ => (#[] : Array Value))
  have na1 : (s.heap.update kS (Obj.mapSeq fun _ => (#[] : Array Value))).get? a = some (seqObj "list" #[] e1) := (s1.2 a O.ka.symm).trans na
  obtain ⟨c1, hc1⟩ : ∃ c1, (s.heap.update kS (Obj.mapSeq fun _ => (#[] : Array Value))).get? kS = some (seqObj "list" #[] c1) := ⟨_, get?_update_seq nk fun _ => #[]⟩
  have s2 := Heap.SameBut.update (s.heap.update kS (Obj.mapSeq fun _ => (#[] : Array Value))) a (Obj.mapSeq fun _ => (arrOf st).map (·.2))
  obtain ⟨c2, hc2⟩ : ∃ c2, ((s.heap.update kS (Obj.mapSeq fun _ => (#[] : Array Value))).update a (Obj.mapSeq fun _ => (arrOf st).map (·.2))).get? a = some (seqObj "list" ((arrOf st).map (·.2)) c2) := ⟨_, get?_update_seq na1 fun _ => (arrOf st).map (·.2)⟩
  unfold ksk_tail
  try dsimp only
  refine wpAny_bind (listUpdate_at nk rfl ?_ (by rw [hsz, sizeLine_eq]; omega) (Nat.zero_le _))
  refine wpAny_bind (wpAny_letGo ?_)
  refine wpAny_bind (seqEpoch_at na1 rfl ?_)
  simp only [Bool.false_eq_true, if_false]
  refine wpAny_bind (listUpdate_at na1 rfl ?_ (Nat.zero_le _) (by rw [Array.size_map, hsz2, sizeLine_eq]; omega))
  rw [hfl]
  simp only [bne_self_eq_false, Bool.false_eq_true, if_false]
  have I1 := repin (t' := s.toks) I O.sk O.pk' (fun b u hb q => (s1.2 b hb).trans q) hc1 (noCell _ _)
  have I2 := repin (t' := s.toks) (ClX.unpin I1) O.sa O.pa (fun b u hb q => (s2.2 b hb).trans q) hc2 (noCell _ _)
  exact wpAny_pure (h _ _ c2 I2 hR (key_out hk hp hs))
theorem key_end {keys : Array Value} {e : Nat} {H : Hp} {s : Shared} (O : Own2 X pins a kS) (I : Inv X ((kS, seqObj "list" keys e) :: (a, seqObj "list" #[] e1) :: pins) σ H s) (hR : R H) (hk : StrsAre keys.toList zs) (hlen : zs.length = vs.length) (hZ : vs.length ≤ sizeLine)
    (h : ∀ s' out c, Inv X ((a, seqObj "list" out c) :: pins) σ H s' → R H → Keyd zs vs out.toList → P (.done (.ret .none)) s') :
    wpAny (model X.prog X.w) A (ksk_end a false vs.toArray e1 (.ref kS) keys) P E s := by
  have hZ2 := hZ
  rw [sizeLine_eq] at hZ2
  have hsz : keys.size = vs.length := by
    have h1 := hk.length
    rw [Array.length_toList] at h1
    omega
  have hzs : (keys.zip vs.toArray).size = vs.length := by rw [Array.size_zip, hsz, List.size_toArray, Nat.min_self]
  have kO : KeysOf strKind (keys.zip vs.toArray) := fun p hp => by
    rw [PyProof.Rows.ksk_zip] at hp
    obtain ⟨z, t, e⟩ := hk.all p.1 (List.of_mem_zip hp).1
    exact ⟨z.cps.toList, by rw [e]⟩
  unfold ksk_end
  simp only [Bool.false_eq_true, if_false]
  by_cases h2 : vs.toArray.size < 2
  · rw [if_pos h2, if_pos h2]
    refine wpAny_bind (wpAny_pure ?_)
    rw [StateT.run_pure]
    refine wpAny_bind (wpAny_pure ?_)
    try dsimp only
    refine key_tail (st := SortSt.mk' general' (keys.zip vs.toArray) #[] 7 none) O I hR hk hlen hZ (Array.Perm.refl _) ?_ rfl h
    intro i j hij hj
    have hj2 : j < (keys.zip vs.toArray).size := hj
    rw [hzs] at hj2
    rw [List.size_toArray] at h2
    have : i = j := by omega
    subst this
    exact KeyOrd.kle_refl _
  · rw [if_neg h2, if_neg h2]
    rw [List.size_toArray] at h2
    have kk : keyKind' keys = pure oneType' := by
      match hv : keys.toList, hk with
      | [], _ => rw [← Array.length_toList, hv] at hsz; simp at hsz; omega
      | [_], _ => rw [← Array.length_toList, hv] at hsz; simp at hsz; omega
      | v1 :: v2 :: r, hk' =>
        have e : keys = (v1 :: v2 :: r).toArray := by rw [← hv]
        rw [e]
        exact keyKind_strs hk'
    rw [kk]
    refine wpAny_bind (wpAny_pure ?_)
    refine wpAny_bind (wpAny_mono (wpS_sortRunsAny (κ := strKind) (a₀ := keys.zip vs.toArray) (st := SortSt.mk' oneType' (keys.zip vs.toArray) #[] 7 none)
      (Q := fun _ st' => (arrOf st').Perm (keys.zip vs.toArray) ∧ failedOf st' = none ∧ SortedToK strKind (arrOf st') (keys.zip vs.toArray).size)
      strKind_oneLt kO ⟨Array.Perm.refl _, rfl, rfl⟩ rfl (by rw [hzs]; omega) fun st' a1 a2 a3 => ⟨a1, a2, a3⟩) ?_ fun _ _ e => e)
    rintro ⟨⟨⟩, st'⟩ s' ⟨rfl, hp, hf, hs⟩
    try dsimp only
    exact key_tail O I hR hk hlen hZ hp (by rw [hp.size_eq]; exact hs) hf h
theorem key_rest {f : Value} {H : Hp} {s : Shared} (O : Own2 X pins a kS) (I : Inv X ((kS, seqObj "list" #[] 0) :: (a, seqObj "list" #[] e1) :: pins) σ H s) (hR : R H) (rv : Vals xs vs) (hlen : zs.length = vs.length) (hZ : vs.length ≤ sizeLine)
    (turn : ∀ (i : Nat) (x : V) (z : Str), xs[i]? = some x → zs[i]? = some z → ∀ (pn : List (Addr × Obj)) (s' : Shared) (H' : Hp) (u : Value), Inv X (pn ++ pins) σ H' s' → R H' → RelV x u →
      wpAny (model X.prog X.w) A (call f [u]) (EP X (pn ++ pins) σ fun v H2 => v = .str z ∧ R H2) (fun _ _ => False) s')
    (h : ∀ s' H' out c, Inv X ((a, seqObj "list" out c) :: pins) σ H' s' → R H' → Keyd zs vs out.toList → P (.done (.ret .none)) s') :
    wpAny (model X.prog X.w) A (ksk_rest a f false vs.toArray e1 (.ref kS)) P E s := by
  have hZ2 := hZ
  rw [sizeLine_eq] at hZ2
  unfold ksk_rest
  refine wpAny_bind (wpAny_rule ?_)
  first
    | rw [List.forIn_toArray]
    | (rw [← Array.forIn_toList]; simp only [List.toList_toArray])
    | rw [← Array.forIn_toList]
  refine wpAny_bind (ksk_fold (fun i s' => ∃ H' kA e, Inv X ((kS, seqObj "list" kA e) :: (a, seqObj "list" #[] e1) :: pins) σ H' s' ∧ R H' ∧ StrsAre kA.toList (zs.take i)) vs 0 s
    ⟨H, #[], 0, I, hR, by simpa using StrsAre.nil⟩ ?step ?done)
  case step =>
    rintro j u s' hx ⟨H', kA, e, I', hR', hk⟩
    simp only [Nat.zero_add] at hk ⊢
    have hj : j < vs.length := (List.getElem?_eq_some_iff.mp hx).1
    obtain ⟨z, hzj⟩ : ∃ z, zs[j]? = some z := ⟨_, List.getElem?_eq_getElem (by omega)⟩
    have hz : kA.size ≤ vs.length := by
      have h1 := hk.length
      rw [Array.length_toList, List.length_take] at h1
      omega
    obtain ⟨x, hxj, rx⟩ : ∃ x, xs[j]? = some x ∧ RelV x u := by
      have hjx : j < xs.length := by rw [rv.length]; exact hj
      obtain ⟨u', hu', r'⟩ := rv.get (List.getElem?_eq_getElem hjx)
      rw [hx] at hu'
      cases hu'
      exact ⟨_, List.getElem?_eq_getElem hjx, r'⟩
    refine wpAny_bind (wpAny_attempt (wpAny_mono (turn j x z hxj hzj [(kS, seqObj "list" kA e), (a, seqObj "list" #[] e1)] s' H' u I' hR' rx) (fun v s'' he => ?_) fun _ _ hF => hF.elim))
    obtain ⟨y, H2, I2, ry, rfl, hR2⟩ := he
    obtain ⟨t2, rfl⟩ := ry
    try dsimp only
    have I2' : Inv X ((kS, seqObj "list" kA e) :: (a, seqObj "list" #[] e1) :: pins) σ H2 s'' := I2
    have nk : s''.heap.get? kS = some (seqObj "list" kA e) := (I2'.pin (kS, _) (List.mem_append_right _ List.mem_cons_self)).1
    have s1 := Heap.SameBut.update s''.heap kS (Obj.mapSeq (·.push (.str z t2)))
    obtain ⟨c2, hc2⟩ : ∃ c2, (s''.heap.update kS (Obj.mapSeq (·.push (.str z t2)))).get? kS = some (seqObj "list" (kA.push (.str z t2)) c2) := ⟨_, get?_update_seq nk (·.push (.str z t2))⟩
    have ek : zs.take (j + 1) = zs.take j ++ [z] := by rw [List.take_add_one, hzj]; simp
    have ea : (kA.push (Value.str z t2)).toList = kA.toList ++ [Value.str z t2] := by simp
    refine wpAny_bind (listUpdate_at nk rfl ?_ (by rw [sizeLine_eq]; omega) (Nat.le_trans (Nat.le_of_eq (Array.size_push ..)) (by rw [sizeLine_eq]; omega)))
    refine wpAny_pure ⟨rfl, H2, kA.push (.str z t2), c2, repin (t' := s''.toks) I2' O.sk O.pk' (fun b u hb q => (s1.2 b hb).trans q) hc2 (noCell _ _), hR2, ?_⟩
    rw [ea, ek]
    exact strs_snoc hk
  case done =>
    rintro s' ⟨H', kA, e, I', hR', hk⟩
    have hk' : StrsAre kA.toList zs := by
      have e3 : zs.take (0 + vs.length) = zs := List.take_of_length_le (by omega)
      rw [e3] at hk
      exact hk
    have nk : s'.heap.get? kS = some (seqObj "list" kA e) := (I'.pin (kS, _) (List.mem_append_right _ List.mem_cons_self)).1
    try dsimp only
    refine wpAny_bind (listItems_at nk rfl ?_)
    exact key_end O I' hR' hk' hlen hZ fun s2 out c I2 hR2 k2 => h s2 H' out c I2 hR2 k2
end
section
variable {X : Cx} {pins : List (Addr × Obj)} {σ : L2.St} {E : Value → Shared → Prop} {xs : List V} {zs : List Str} {R : Hp → Prop}
def KeydV (zs : List Str) (xs out : List V) : Prop := ∃ ps : List (Str × V), ps.Perm (zs.zip xs) ∧ ps.Pairwise (fun p q => ¬ q.1.cps.toList < p.1.cps.toList) ∧ out = ps.map (·.2)
theorem keyd_vals {vs out : List Value} (rv : Vals xs vs) (hlen : zs.length = xs.length) (k : Keyd zs vs out) : ∃ ys, Vals ys out ∧ KeydV zs xs ys := by
  obtain ⟨ps, pm, pw, rfl⟩ := k
  -- the places
  have go : ∀ {ps qs : List (Str × Value)}, ps.Perm qs → ∀ ws : List (Str × V), Paired (fun (p : Str × V) (q : Str × Value) => p.1 = q.1 ∧ RelV p.2 q.2) ws qs → ∃ rs : List (Str × V), rs.Perm ws ∧ Paired (fun (p : Str × V) (q : Str × Value) => p.1 = q.1 ∧ RelV p.2 q.2) rs ps := by
    intro ps qs pm
    induction pm with
    | nil =>
      intro ws h
      cases h
      exact ⟨[], List.Perm.refl _, .nil⟩
    | cons x _ ih =>
      intro ws h
      cases h with
      | cons r t =>
        obtain ⟨rs, p1, p2⟩ := ih _ t
        exact ⟨_ :: rs, p1.cons _, .cons r p2⟩
    | swap x y l =>
      intro ws h
      cases h with
      | cons r t =>
        cases t with
        | cons r2 t2 => exact ⟨_ :: _ :: _, List.Perm.swap _ _ _, .cons r2 (.cons r t2)⟩
    | trans _ _ ih1 ih2 =>
      intro ws h
      obtain ⟨rs, p1, p2⟩ := ih2 _ h
      obtain ⟨rs', p3, p4⟩ := ih1 _ p2
      exact ⟨rs', p3.trans p1, p4⟩
  have zp : ∀ {xs : List V} {vs : List Value} (zs : List Str), Vals xs vs → Paired (fun (p : Str × V) (q : Str × Value) => p.1 = q.1 ∧ RelV p.2 q.2) (zs.zip xs) (zs.zip vs) := by
    intro xs vs zs r
    induction r generalizing zs with
    | nil => cases zs <;> exact .nil
    | cons r t ih =>
      cases zs with
      | nil => exact .nil
      | cons z zs => exact .cons ⟨rfl, r⟩ (ih zs)
  obtain ⟨rs, p1, p2⟩ := go pm _ (zp zs rv)
  have m2 : ∀ {rs : List (Str × V)} {ps : List (Str × Value)}, Paired (fun (p : Str × V) (q : Str × Value) => p.1 = q.1 ∧ RelV p.2 q.2) rs ps → Vals (rs.map (·.2)) (ps.map (·.2)) ∧ rs.map (·.1) = ps.map (·.1) := by
    intro rs ps h
    induction h with
    | nil => exact ⟨.nil, rfl⟩
    | cons r t ih => exact ⟨.cons r.2 ih.1, by rw [List.map_cons, List.map_cons, ih.2, r.1]⟩
  refine ⟨rs.map (·.2), (m2 p2).1, rs, p1, ?_, rfl⟩
  have e := (m2 p2).2
  have q1 : (ps.map (·.1)).Pairwise (fun p q : Str => ¬ q.cps.toList < p.cps.toList) := List.pairwise_map.mpr pw
  rw [← e] at q1
  exact List.pairwise_map.mp q1
theorem collect_seq {prog : Program} {w : World} {A : Around} {E : Value → Shared → Prop} {s : Shared} {l : Addr} {vs : List Value} {Q : List Value → Shared → Prop} {T : String} (hl : ∃ o n, s.heap.get? l = some o ∧ o.cls = .type T ∧ o.data = .seq vs.toArray n) (hT : T = "list" ∨ T = "tuple")
    (h : Q vs { s with heap := (s.heap.push (seqObj "list" #[] 0)).update s.heap.objs.size (Obj.mapSeq (· ++ vs.toArray)) }) (hsz : vs.length ≤ sizeLine) :
    wpAny (model prog w) A (collect (.ref l)) Q E s := by
  obtain ⟨o, n, ho, hc, hd⟩ := id hl
  unfold collect
  refine wpAny_bind (wpAny_runValue (codeAny_builtin entry_proto_collect' ?_))
  show wpAny _ _ (do again (.builtin "list.__iadd__" ⟨[← newList [], .ref l], []⟩)) _ _ s
  refine wpAny_bind (wpAny_newList (wpAny_pure ⟨Code.quiet_builtin _ (by decide +kernel), codeAny_builtin entry_list_iadd' ?_⟩))
  show wpAny _ _ (Builtin.List.listExtendWith (.ref s.heap.objs.size) (.ref l) (.ref s.heap.objs.size)) _ _ { s with heap := s.heap.push (seqObj "list" #[] 0) }
  unfold Builtin.List.listExtendWith
  have ho' : (s.heap.push (seqObj "list" #[] 0)).get? l = some o := Heap.get?_push_of_some _ ho
  refine wpAny_bind (wpAny_typeOf (T := T) ⟨o, ho', hc⟩ ?_)
  have t1 : (Value.type "list" == Value.type "list") = true := by rfl
  have t2 : (Value.type "tuple" == Value.type "tuple") = true := by rfl
  rw [if_pos (by
    rcases hT with e | e
    · subst e
      rw [t1]
      simp
    · subst e
      rw [t2]
      simp)]
  refine wpAny_bind (listItems_at ho' hd ?_)
  refine wpAny_bind (listItems_at (xs := #[]) (n := 0) (Heap.get?_push_size _ rfl) rfl ?_)
  rw [if_neg (by simp)]
  refine wpAny_bind (listUpdate_at (xs := #[]) (n := 0) (Heap.get?_push_size _ rfl) rfl ?_ (Nat.zero_le _) (by show (#[] ++ vs.toArray).size ≤ sizeLine + 1; simp only [Array.size_append, List.size_toArray, List.length_nil]; omega))
  refine wpAny_pure ?_
  show wpAny (model prog w) A (do
      let o ← load s.heap.objs.size
      match o.data with
      | .seq xs _ => pure xs.toList
      | _ => unsupported "internal:collect") Q E { s with heap := (s.heap.push (seqObj "list" #[] 0)).update s.heap.objs.size (Obj.mapSeq (· ++ vs.toArray)) }
  refine wpAny_bind (wpAny_load (get?_update_seq (Heap.get?_push_size _ rfl) _) ?_)
  show wpAny _ _ (pure ((#[] : Array Value) ++ vs.toArray).toList) Q E _
  rw [show ((#[] : Array Value) ++ vs.toArray).toList = vs by simp]
  exact wpAny_pure h
def Sq (K : PySem.W.Frag) (H : Hp) (a : Addr) (xs : List V) : Prop := SqL K H a xs ∨ SqT K H a xs
theorem sq_at {H : Hp} {s : Shared} {a : Addr} {xs : List V} (I : Inv X pins σ H s) (h : Sq X.K H a xs) : ∃ its : List Value, Vals xs its ∧ xs.length ≤ sizeLine ∧ ∃ T : String, (T = "list" ∨ T = "tuple") ∧ ∃ o n, s.heap.get? a = some o ∧ o.cls = .type T ∧ o.data = .seq its.toArray n := by
  rcases h with h | h
  · obtain ⟨its, r, ⟨o, n, e, c, _, d⟩, z⟩ := I.list h
    exact ⟨its, r, z, _, .inl rfl, o, n, e, c, d⟩
  · obtain ⟨its, r, ⟨o, e, c, n, d⟩, z⟩ := I.tuple h
    exact ⟨its, r, z, _, .inr rfl, o, n, e, c, d⟩
theorem sorted_key {f : Addr} {l : Addr} {H : Hp} {s : Shared} {Q : Value → Shared → Prop} (I : Inv X pins σ H s) (hR : R H) (hl : Sq X.K H l xs) (hlen : zs.length = xs.length)
    (turn : ∀ (i : Nat) (x : V) (z : Str), xs[i]? = some x → zs[i]? = some z → ∀ (pn : List (Addr × Obj)) (s' : Shared) (H' : Hp) (u : Value), Inv X (pn ++ pins) σ H' s' → R H' → RelV x u →
      wpAny (model X.prog X.w) X.A.in1.in1 (call (.ref f) [u]) (EP X (pn ++ pins) σ fun v H2 => v = .str z ∧ R H2) (fun _ _ => False) s')
    (h : ∀ (D : Addr) (s' : Shared) (H' : Hp) (ys : List V), Inv X pins σ (upd H' D (.lst ys)) s' → H' D = none → R H' → KeydV zs xs ys → Q (.ref D) s') :
    wpAny (model X.prog X.w) X.A (call (.builtin "sorted") [.ref l] [(Str.ofString "key", .ref f)]) Q E s := by
  obtain ⟨vs, rv, hz, T, hT, pl⟩ := sq_at I hl
  have hlv := rv.length
  have hZ : vs.length ≤ sizeLine := by omega
  have hZ2 := hZ
  rw [sizeLine_eq] at hZ2
  refine call_function_entry_kw kind_sorted plain_sorted entry_sorted (PyProof.Rows.ksk_s1 _ _) ?_
  unfold Builtin.«sorted»
  refine wpAny_bind (m := checkCount "sorted" 1 1 _) (wpAny_pure ?_)
  refine wpAny_bind (collect_seq pl hT ?_ (by rw [sizeLine_eq]; omega))
  refine wpAny_bind (wpAny_newList ?_ (by rw [sizeLine_eq]; omega))
  have hsz : ((s.heap.push (seqObj "list" #[] 0)).update s.heap.objs.size (Obj.mapSeq (· ++ vs.toArray))).objs.size = s.heap.objs.size + 1 := by
    rw [Heap.size_update, size_push']
  have hoL : (((s.heap.push (seqObj "list" #[] 0)).update s.heap.objs.size (Obj.mapSeq (· ++ vs.toArray))).push (seqObj "list" vs.toArray 0)).get? (s.heap.objs.size + 1) = some (seqObj "list" vs.toArray 0) := by
    rw [← hsz]; exact Heap.get?_push_size _ rfl
  have keep : ∀ b o, s.heap.get? b = some o → (((s.heap.push (seqObj "list" #[] 0)).update s.heap.objs.size (Obj.mapSeq (· ++ vs.toArray))).push (seqObj "list" vs.toArray 0)).get? b = some o := fun b o q => by
    have hlt : b < s.heap.objs.size := Heap.lt_size q
    rw [Heap.get?_push_ne _ _ _ (by rw [hsz]; exact Nat.ne_of_lt (Nat.lt_succ_of_lt hlt)), Heap.get?_update_ne _ _ _ _ (Nat.ne_of_lt hlt), Heap.get?_push_ne _ _ _ (Nat.ne_of_lt hlt)]
    exact q
  have szA : (((s.heap.push (seqObj "list" #[] 0)).update s.heap.objs.size (Obj.mapSeq (· ++ vs.toArray))).push (seqObj "list" vs.toArray 0)).objs.size = s.heap.objs.size + 2 := by rw [size_push', hsz]
  generalize (((s.heap.push (seqObj "list" #[] 0)).update s.heap.objs.size (Obj.mapSeq (· ++ vs.toArray))).push (seqObj "list" vs.toArray 0)) = hA at hoL keep szA
  show wpAny _ _ _ _ _ { s with heap := hA }
  rw [hsz]
  refine wpAny_bind (wpAny_holding (wpAny_call_entry_kw slot_list_sort ⟨_, hoL, rfl⟩ entry_list_sort ?body (PyProof.Rows.ksk_l1 _ _)))
  case body =>
    show wpAny (model X.prog X.w) X.A.in1.in1 (Builtin.«list.sort» ⟨[.ref (s.heap.objs.size + 1)], [(Str.ofString "key", .ref f)]⟩) _ _ _
    rw [PyProof.Rows.ksk_t1]
    -- the sort's own lists
    have s1 := Heap.SameBut.update hA (s.heap.objs.size + 1) (Obj.mapSeq fun _ => (#[] : Array Value))
    obtain ⟨e1, ho1⟩ : ∃ e1, (hA.update (s.heap.objs.size + 1) (Obj.mapSeq fun _ => (#[] : Array Value))).get? (s.heap.objs.size + 1) = some (seqObj "list" #[] e1) := ⟨_, get?_update_seq hoL fun _ => #[]⟩
    have keep2 : ∀ b o, s.heap.get? b = some o → (((hA.update (s.heap.objs.size + 1) (Obj.mapSeq fun _ => (#[] : Array Value))).push (seqObj "tuple" vs.toArray 0)).push (seqObj "list" #[] 0)).get? b = some o := fun b o q => by
      have hlt : b < s.heap.objs.size := Heap.lt_size q
      exact Heap.get?_push_of_some _ (Heap.get?_push_of_some _ ((s1.2 b (Nat.ne_of_lt (Nat.lt_succ_of_lt hlt))).trans (keep b o q)))
    have hkS : ((hA.update (s.heap.objs.size + 1) (Obj.mapSeq fun _ => (#[] : Array Value))).push (seqObj "tuple" vs.toArray 0)).objs.size = s.heap.objs.size + 3 := by rw [size_push', Heap.size_update, szA]
    have ltp : ∀ p ∈ X.pn ++ pins, p.1 < s.heap.objs.size := fun p hp => Heap.lt_size (I.pin p hp).1
    unfold ksk_tree
    refine wpAny_bind (listItems_at hoL rfl ?_)
    refine wpAny_bind (listUpdate_at hoL rfl ?_ (by rw [List.size_toArray, sizeLine_eq]; omega) (Nat.zero_le _))
    refine wpAny_bind (seqEpoch_at ho1 rfl ?_)
    refine wpAny_bind (wpAny_newTuple ?_ (by show vs.length ≤ _; rw [sizeLine_eq]; omega))
    refine wpAny_bind (wpAny_newList ?_ (Nat.zero_le _))
    refine wpAny_holding ?_
    have O : Own2 X pins (s.heap.objs.size + 1) (s.heap.objs.size + 3) := ⟨Nat.le_trans I.sz (Nat.le_add_right _ _), Nat.le_trans I.sz (Nat.le_add_right _ _), Nat.ne_of_gt (Nat.add_lt_add_left (by decide : 1 < 3) s.heap.objs.size), fun p hp => Nat.ne_of_lt (Nat.lt_of_lt_of_le (ltp p hp) (Nat.le_add_right _ _)), fun p hp => Nat.ne_of_lt (Nat.lt_of_lt_of_le (ltp p hp) (Nat.le_add_right _ _))⟩
    have Ia : Inv X ((s.heap.objs.size + 1, seqObj "list" #[] e1) :: pins) σ H { s with heap := ((hA.update (s.heap.objs.size + 1) (Obj.mapSeq fun _ => (#[] : Array Value))).push (seqObj "tuple" vs.toArray 0)).push (seqObj "list" #[] 0) } :=
      ClX.pin_new (t' := s.toks) I keep2 (Nat.le_succ _) (Heap.get?_push_of_some _ (Heap.get?_push_of_some _ ho1)) (noCell _ _)
    have Ik : Inv X ((s.heap.objs.size + 3, seqObj "list" #[] 0) :: (s.heap.objs.size + 1, seqObj "list" #[] e1) :: pins) σ H { s with heap := ((hA.update (s.heap.objs.size + 1) (Obj.mapSeq fun _ => (#[] : Array Value))).push (seqObj "tuple" vs.toArray 0)).push (seqObj "list" #[] 0) } := by
      refine Ia.pins_of fun p hp => ?_
      rcases List.mem_cons.mp hp with e | e
      · subst e
        refine ⟨?_, I.hok.fresh (Nat.le_add_right s.heap.objs.size 3), Nat.ne_of_gt (Nat.lt_of_lt_of_le I.lt (Nat.le_add_right s.heap.objs.size 3)), I.nofs (Nat.le_add_right s.heap.objs.size 3), noCell _ _⟩
        show Heap.get? _ (s.heap.objs.size + 3) = _
        rw [← hkS]
        exact Heap.get?_push_size _ rfl
      · exact Ia.pin p (List.mem_append_right _ e)
    rw [hkS]
    refine key_rest (R := R) O Ik hR rv (by omega) hZ turn fun s2 H2 out c I2 hR2 k2 => ⟨_, rfl, ?_⟩
    refine wpAny_pure ⟨_, rfl, ?_⟩
    obtain ⟨ys, ry, ky⟩ := keyd_vals rv hlen k2
    have hD : H2 (s.heap.objs.size + 1) = none := ClX.pin_un I2
    have ly : ys.length = xs.length := by
      obtain ⟨ps, pm, _, e⟩ := ky
      rw [e, List.length_map, pm.length_eq, List.length_zip, hlen, Nat.min_self]
    refine h _ s2 H2 ys (track I2 O.sa O.pa ⟨by omega, out.toList, c, ry, ?_⟩) hD hR2 ky
    have := ClX.pin_at I2
    simpa using this
end
end JW
namespace JW
open PySem PySem.Spec PyProof.Rows L2 LamX
theorem lam_run {P : Program} {w : World} {K : PySem.W.Frag} {mg : Str → Option Value} {base : Heap} {CX : CXT} {N ps : List Str} {k : Nat} {nm qual : Str} {params : Arguments} {body : Expr} {scope : Scope} {f c' : Addr} {pm ctv : Value} {A : Around} {outer : List Env} {s : Shared} {H : Hp} {Q : VK} {E : XK}
    {us : List Value} {vs : List V} {t : TE} (ho : s.heap.get? f = some (PySem.W.kla_obj nm qual params body scope [] pm c' ctv)) (hcd : s.heap.CodeRec (.ref c') qual) (S : FnScope N ps scope) (hr : Room (k + 1) A) (e0 : Env0 P w K mg base A outer s H)
    (hb : BindsTo s (PySem.W.kla_fn nm qual params body scope [] pm (.ref c') ctv) ⟨us, []⟩ (ps.zip us)) (hl : vs.length = ps.length) (r : Vals vs us)
    (hbody : PE (cxOf CX P w K mg base N qual scope f (.ref c') A outer s H E).nox body t) (h : t (start N vs) H Q) :
    codeAny (model P w) A (.call (.ref f) ⟨us, []⟩) (CR CX outer P w H s Q E) s := by
  have lim : s.heap.NoLimit := e0.mod.nolimit.keeps fun b o e => (e0.bs b o e).1
  have hkind : ∀ y ∈ ps.zip us, scope.names.lookup y.1 = some .local ∨ (scope.names.lookup y.1 = some .cell ∧ ((cellsFrom (s.heap.objs.size + 1) scope.names []).lookup y.1).isSome = true) := fun ⟨n, v⟩ hy => by
    rcases S.par n (List.of_mem_zip hy).1 with q | q
    · exact .inl q
    · exact .inr ⟨q, PySem.W.cellsFrom_some _ _ _ (.inl q)⟩
  refine PySem.W.kla_callFunE hr.depth ho rfl S.co S.gen rfl hcd (hb _ _ _ _ ?_)
  refine wpAny_newFunctionEnv_cells S.kind hkind fun env he s1 x => ?_
  subst he
  refine ⟨lim.keeps x.toInCall.keep, ?_⟩
  have I : Inv (cxOf CX P w K mg base N qual scope f (.ref c') A outer s H E) [] (start N vs) H s1 := inv_start S hr.hd e0 hl r x
  refine PySem.W.kla_codeExpr (wpAny_mono (hbody.nox.run [] s1 (start N vs) H Q I h) (fun v s' hq => ?_) fun e s' hs => hs)
  obtain ⟨v', H', J, rv, q⟩ := hq
  exact ⟨v', H', J.os, J.bare, J.base, J.hok, rv, q⟩
def tSortKey (K : PySem.W.Frag) (T : List (Addr × Str)) (te : TE) (N : List Str) (tb : TE) : TE := fun σ H Q => te σ H fun x H1 => ∃ (l : Addr) (xs : List V) (zs : List Str), x = .ref l ∧ Sq K H1 l xs ∧ zs.length = xs.length ∧ Tabs T H1 ∧
  ∀ H2, ExtN H1 H2 → Tabs T H2 → ∃ R : Hp → Prop, R H2 ∧ (∀ H', R H' → ExtN H2 H') ∧
    (∀ (i : Nat) (x : V) (z : Str), xs[i]? = some x → zs[i]? = some z → ∀ H', R H' → tb (start N [x]) H' fun v H3 => v = .str z ∧ R H3) ∧
    ∀ (D : Addr) (H' : Hp) (ys : List V), R H' → H' D = none → KeydV zs xs ys → Q (.ref D) (upd H' D (.lst ys))
section
variable {X : Cx} {e : Expr} {te tb : TE} {T : List (Addr × Str)} {c P : Addr} {params : Arguments} {body : Expr} {scope : Scope} {p pos lpos kpos : Pos} {N : List Str} {y : Str} {k : Nat}
theorem pe_sortedKey (he : PE X e te) (hg : Gl X "sorted") (hm : X.mg "sorted" = none) (TB : TabB X.base X.mg c P) (hcode : X.env.code = .ref c) (hT : (P, X.env.qual ++ "<lambda>") ∈ T) (hu : ∀ q ∈ T, q.1 = P → q.2 = X.env.qual ++ "<lambda>") (hr : Room (k + 3) X.A)
    (S : FnScope N [y] scope) (hbd : ∀ (q : Str) (pm cdv ctv u : Value), bindArgs (PySem.W.kla_fn "<lambda>" q params body scope [] pm cdv ctv) ⟨[u], []⟩ = pure [(y, u)])
    (hbody : ∀ (A : Around) (outer : List Env) (s : Shared) (H : Hp) (f : Addr) (cd : Value), Room k (A.deeper (envOfC (X.env.qual ++ "<lambda>") scope s.heap.objs.size f cd)) → PE (cxOf CX0 X.prog X.w X.K X.mg X.base N (X.env.qual ++ "<lambda>") scope f cd A outer s H E0).nox body tb)
    (hdef : defaultsOf params X.env = ([], []) := by rfl) (hclo : cloFrom X.env.cells scope.names [] = [] := by rfl)
    (hst : backTo pos (starEach [e] X.env) = [(false, eval e X.env)] := by rfl) : PE X (.Call (.Name "sorted" p) [e] [⟨some "key", .Lambda params body scope lpos, kpos⟩] pos) (tSortKey X.K T te N tb) := by
  refine ⟨fun pins s σ H Q I h => ?_⟩
  have hfree : ∀ y ∈ scope.names, y.2 = .free → ∃ c, X.env.cells.lookup y.1 = some c := fun y hy e => absurd e (S.nofree y hy)
  refine wpAny_Call_Name_kw (ld_blt I hg hm (by decide +kernel : bootBuiltins "sorted" = some (.builtin "sorted")) ?_ (by decide) (by decide))
  refine PyProof.Rows.callWith_kw (e := e) (rest := []) ?_ hst (by rw [hst]; rfl) (by rfl) (by rfl)
  rw [hst]
  refine Calls.spliced_cons (thn (he.run pins s σ H _ I h) fun u s1 ⟨x, H1, I1, r1, q1⟩ => Calls.spliced_nil ?_)
  obtain ⟨l, xs, zs, rfl, hl, hlen, hTb, q⟩ := q1
  cases r1
  show wpAny _ _ (evalAll [(do let v ← eval (.Lambda params body scope lpos) X.env; standAt pos; pure v)]) _ _ s1
  refine wpAny_evalAll_cons (wpAny_bind ?_)
  refine LamX.lam_make2 I1 TB hcode hT hu hTb hdef hfree fun f c' pm ctv H2 s2 I2 hE hTb2 hf hfn hfr hco => ?_
  rw [hclo] at hf
  refine wpAny_bind (wpAny_standAt (wpAny_pure (wpAny_evalAll_nil ?_)))
  show wpAny (model X.prog X.w) X.A (call (.builtin "sorted") [.ref l] [(Str.ofString "key", .ref f)]) _ _ _
  have fne : f ≠ X.env.locals := fun z => by
    obtain ⟨m, ⟨o, es, ep, ho, hd, _⟩, _⟩ := I2.loc
    rw [← z, hf] at ho
    cases ho
    cases hd
  have ffs : f ∉ X.fs := fun z => hfr (by
    rcases I2.ok.stk with e | ⟨e, _⟩
    · rw [e]
      exact z
    · rw [e]
      obtain ⟨o, ho, he'⟩ := List.mem_filterMap.mp z
      exact List.mem_filterMap.mpr ⟨o, List.mem_cons_of_mem _ ho, he'⟩)
  have I3 : Inv X ((f, PySem.W.kla_obj "<lambda>" (X.env.qual ++ "<lambda>") params body scope [] pm c' ctv) :: pins) σ H2 s2 := by
    refine I2.pins_of fun p hp => ?_
    rcases List.mem_cons.mp hp with e | e
    · subst e
      exact ⟨hf, hfn, fne, ffs, fun v z => by cases z⟩
    · exact I2.pin p (List.mem_append_right _ e)
  obtain ⟨R, hR, hRE, turn, fin⟩ := q H2 hE hTb2
  have hl2 : Sq X.K H2 l xs := by
    rcases hl with ((h | ⟨o, h⟩) | h) | ((h | ⟨o, h⟩) | h)
    · exact .inl (.inl (.inl (hE _ _ h fun ps z => by cases z)))
    · exact .inl (.inl (.inr ⟨o, hE _ _ h fun ps z => by cases z⟩))
    · exact .inl (.inr h)
    · exact .inr (.inl (.inl (hE _ _ h fun ps z => by cases z)))
    · exact .inr (.inl (.inr ⟨o, hE _ _ h fun ps z => by cases z⟩))
    · exact .inr (.inr h)
  refine sorted_key (R := R) I3 hR hl2 hlen (fun i x z hx hz pn s' H' u I' hR' rx => ?_) fun D s' H' ys I' hD hR' ky => ⟨.ref D, _, ClX.unpin I', rfl, fin D H' ys hR' hD ky⟩
  have hf' : s'.heap.get? f = some (PySem.W.kla_obj "<lambda>" (X.env.qual ++ "<lambda>") params body scope [] pm c' ctv) := (I'.pin (f, _) (List.mem_append_right _ (List.mem_append_right _ List.mem_cons_self))).1
  have hco' := hRE H' hR' c' _ hco LamX.codeO_ne
  obtain ⟨⟨oc, vs, t, hoc, hdc, hvc⟩, _, _⟩ := I'.hok c' _ hco'
  have hbi : BindsTo s' (PySem.W.kla_fn "<lambda>" (X.env.qual ++ "<lambda>") params body scope [] pm (.ref c') ctv) ⟨[u], []⟩ ([y].zip [u]) := .of_eq (hbd _ _ _ _ _)
  have hr2 : Room (k + 1) X.A.in1.in1 := hr.in1.in1
  refine wpAny_call (codeAny_mono (lam_run (CX := CX0) (E := E0) (N := N) hf' ⟨c', oc, vs, t, rfl, hoc, hdc, hvc⟩ S hr2 I'.env0.in1.in1 hbi rfl (.cons rx .nil) (hbody _ _ s' H' f _ (hr2.deeper _)) (turn i x z hx hz H' hR')) fun r s'' hq => ?_)
  cases r with
  | error er => exact False.elim hq
  | ok fl =>
    cases fl with
    | ret w' => exact I'.after hq
    | next => exact False.elim hq
    | brk => exact False.elim hq
    | cont => exact False.elim hq
end
end JW
namespace JW
open PySem PySem.Spec PyProof.Rows L2
theorem ints_reads {h : Heap} : ∀ {ns : List Int} {us : List Value}, Vals (ns.map V.int) us → ReadsAll h us (ns.map PyData.int) []
  | [], us, r => by
    cases r
    exact .nil
  | n :: ns, us, r => by
    rw [List.map_cons] at r
    cases r with
    | cons r1 r2 =>
      obtain ⟨t, rfl⟩ := r1
      exact ReadsAll.cons (as := []) (bs := []) (.int n t) (ints_reads r2)
theorem ints_alike (ns : List Int) : PySem.W.AlikeAll (ns.map PyData.int) := ⟨fun x hx y hy => by
  obtain ⟨i, _, rfl⟩ := List.mem_map.mp hx
  obtain ⟨j, _, rfl⟩ := List.mem_map.mp hy
  rfl, fun x hx => by
  obtain ⟨i, _, rfl⟩ := List.mem_map.mp hx
  exact fun z => by cases z⟩
theorem ints_depth : ∀ ns : List Int, PyData.depthAll (ns.map PyData.int) = 0
  | [] => rfl
  | n :: r => by
    rw [List.map_cons]
    show max (PyData.depth (.int n)) (PyData.depthAll (r.map PyData.int)) = 0
    rw [ints_depth r]
    rfl
def rMaxDf (K : PySem.W.Frag) : List V → List V → Hp → VK → Prop := fun vs zs H Q => ∃ (a : Addr) (ns : List Int) (d : Int), vs = [V.ref a] ∧ zs = [.int d] ∧ SqL K H a (ns.map V.int) ∧
  ∀ m : Int, ((ns = [] ∧ m = d) ∨ ∃ n r, ns = n :: r ∧ m = r.foldl max n) → Q (.int m) H
theorem cr_maxDf {X : Cx} (hc : X.calm = true) (hu : X.A.units + 1 < cLine) : CallRK X (.builtin "max") [Str.ofString "default"] (rMaxDf X.K) := by
  intro pins s σ H vs zs us ws Q I r rz h
  obtain ⟨a, ns, d, rfl, rfl, hs, q⟩ := h
  obtain ⟨its, rv, hl, _⟩ := I.list hs
  rw [Vals.ref1 r]
  obtain ⟨w1, rfl, rd⟩ := vals1 rz
  refine PySem.W.max_list_default (vs := its.toArray) (I.ok.hd hc) hl.isList (xs := ns.map PyData.int) (as := []) (ints_reads rv) (ints_alike ns) (by rw [ints_depth]; exact hu) (fun hn h' tk hk => ?_) fun y ys i v h' tk bs he hv hr hk => ?_
  · exact ⟨.int d, H, I.kept hk, rd, q d (.inl ⟨List.map_eq_nil_iff.mp hn, rfl⟩)⟩
  · cases ns with
    | nil => cases he
    | cons n r =>
      rw [List.map_cons] at he
      injection he with e1 e2
      subst e1
      subst e2
      rw [PySem.W.maxD_ints] at hr
      cases hr with
      | int _ t => exact ⟨.int _, H, I.kept hk, ⟨t, rfl⟩, q _ (.inr ⟨n, r, rfl, rfl⟩)⟩
end JW
namespace JW
open PySem PySem.Spec PyProof.Rows L2
theorem draws_str {prog : Program} {w : World} {A : Around} (hh : A.handled = none) (it : Addr) (x : Str) (t : Tok) :
    Draws prog w A it [it] x.cps.size (fun i v => ∃ c u, x.cps[i]? = some c ∧ v = .str ⟨#[c]⟩ u) (fun i h => h.IsStrIter it (strIterType x) x t i) := by
  cases ha : x.cps.all (· < 128)
  · have e : strIterType x = "str_iterator" := by simp [strIterType, ha]
    rw [e]
    exact Draws.strWide hh it x t
  · have e : strIterType x = "str_ascii_iterator" := by simp [strIterType, ha]
    rw [e]
    exact Draws.strAscii hh it x t
def Ites (x : Str) : It :=
  ⟨fun i _ => i < x.cps.size, fun i H v H' => ∃ T c, v = .ref T ∧ H T = none ∧ H' = upd H T (.tup [.int (i : Nat), .str ⟨#[c]⟩]) ∧ x.cps[i]? = some c, fun i _ => i = x.cps.size⟩
theorem turn_enumS {P : Program} {w : World} {K : PySem.W.Frag} {elts : List Expr} {kk : Nat} {tpos : Pos} (x : Str) (t : Tok) (e it : Addr) :
    Turn P w K (.Tuple elts kk tpos) (Ites x) [e, it] e (fun i h => (∃ old, IsEnum h e it ((i : Nat) : Int) old) ∧ h.IsStrIter it (strIterType x) x t i ∧ e ≠ it) where
  mem := by simp
  obj := fun i h st b hb => by
    obtain ⟨⟨old, he⟩, ⟨o, ho, hc, hd⟩, _⟩ := st
    have e' : b = e ∨ b = it := by simpa using hb
    rcases e' with z | z
    · rw [z]; exact ⟨_, he, fun v q => nomatch q⟩
    · rw [z]; exact ⟨o, ho, fun v q => by rw [hd] at q; cases q⟩
  keep := fun i h h' st k => by
    obtain ⟨⟨old, he⟩, ⟨o, ho, r⟩, hne⟩ := st
    exact ⟨⟨old, k e (by simp) _ he⟩, ⟨o, k it (by simp) o ho, r⟩, hne⟩
  item := by
    intro X hP hw hK hc i pins s σ H E I hf st hg
    subst hP hw hK
    obtain ⟨⟨old, he⟩, hit, hne⟩ := st
    have hlt : i < x.cps.size := hg
    have hel : e < s.heap.objs.size := Heap.lt_size he
    have hil : it < s.heap.objs.size := by obtain ⟨_, q, _⟩ := hit; exact Heap.lt_size q
    refine wpAny_pyNext_enum_itemD (draws_str (A := X.A.in1) (I.ok.hd hc) it x t) he hit hlt hne (by simpa using hne) fun y h' tk hy ho hit' hT hsz hk => ?_
    obtain ⟨c, u, hcx, rfl⟩ := hy
    refine ⟨_, rfl, wpAny_letOwnedTupleGo_enum (s := { s with heap := h', toks := tk + 1 }) ho fun h'' he' sb => ?_⟩
    have hT2 : h''.get? s.heap.objs.size = some { cls := .type "tuple", data := .seq #[.int i tk, .str ⟨#[c]⟩ u] } := (sb.2 _ (Nat.ne_of_gt hel)).trans hT
    have new : ObjOk X.prog X.w (upd H s.heap.objs.size (.tup [.int (i : Nat), .str ⟨#[c]⟩])) h'' s.heap.objs.size (.tup [.int (i : Nat), .str ⟨#[c]⟩]) :=
      ⟨by show 2 ≤ sizeLine; decide, [.int i tk, .str ⟨#[c]⟩ u], .cons ⟨_, rfl⟩ (.cons ⟨_, rfl⟩ .nil), ⟨_, hT2, rfl, _, rfl⟩⟩
    have I1 : Inv X pins σ (upd H s.heap.objs.size (.tup [.int (i : Nat), .str ⟨#[c]⟩])) { s with heap := h'', toks := tk + 1 } :=
      I.turnedNew (ch := [e, it]) (fun b ob hb q => (sb.2 b (fun z => hb (by simp [z]))).trans (hk b ob (fun z => hb (by simp [z])) (fun z => hb (by simp [z])) q)) hf (Nat.le_refl _) new
    refine ⟨.ref s.heap.objs.size, _, I1, rfl, ⟨_, c, rfl, I.hok.fresh (Nat.le_refl _), rfl, hcx⟩, ⟨⟨.str ⟨#[c]⟩ u, ?_⟩, ?_, hne⟩, fun b hb => ?_⟩
    · have e1 : ((i + 1 : Nat) : Int) = (i : Int) + 1 := by omega
      rw [e1]; exact he'
    · obtain ⟨o, q, r⟩ := hit'
      exact ⟨o, (sb.2 it (Ne.symm hne)).trans q, r⟩
    · have hb' : b < s.heap.objs.size := by
        have e' : b = e ∨ b = it := by simpa using hb
        rcases e' with z | z
        · rw [z]; exact hel
        · rw [z]; exact hil
      rw [upd_ne (Nat.ne_of_lt hb')]
      exact (hf b hb).1
  done := by
    intro X hP hw hK hc i pins s σ H E I hf st hg
    subst hP hw hK
    obtain ⟨⟨old, he⟩, hit, hne⟩ := st
    have hge : i = x.cps.size := hg
    subst hge
    obtain ⟨f0, f1, f2, f3, f4, f5⟩ := hf it (by simp)
    refine wpAny_pyNext_enum_endD (draws_str (A := X.A.in1) (I.ok.hd hc) it x t) he hit fun h' eb => ⟨rfl, I.turned (t' := s.toks) (fun b o hb q => eb b o hb q) f0 f1 f3 f4 f5⟩
  self := fun A i s Q E st h => let ⟨⟨_, he⟩, _⟩ := st; wpAny_pyIter_enum he h
def iEnumS (ta : TA) : TI := fun σ H R => ta σ H fun vs H1 => ∃ x, vs = [.str x] ∧ R (Ites x) H1
theorem pi_enumS {X : Cx} {e : Expr} {ta : TA} {p pos tpos : Pos} {elts : List Expr} {kk : Nat} (hg : Gl X "enumerate") (hm : X.mg "enumerate" = none) (ha : PA X [e] ta) (hs : starEach [e] X.env = [(false, eval e X.env)] := by rfl) :
    PI X (.Tuple elts kk tpos) (.Call (.Name "enumerate" p) [e] [] pos) (iEnumS ta) := by
  refine ⟨fun pins s σ H R I h => ?_⟩
  refine Call_ (ld_blt I hg hm boot_enumerate (PyProof.Rows.callWith_type1 (thn (ha.run pos pins s σ H _ I h) fun us s1 ⟨vs, H1, I1, r1, q1⟩ => ?_) hs rfl))
  obtain ⟨x, ex, q⟩ := q1
  subst ex
  cases r1 with
  | cons r rr =>
    cases rr
    obtain ⟨t, rfl⟩ := r
    refine call_enumerate_str fun h' he hit hsz hk => wpAny_pyIter_enum he ?_
    have I2 : Inv X pins σ H1 { s1 with heap := h' } := I1.kept (t' := s1.toks) hk
    refine ⟨s1.heap.objs.size + 1, [s1.heap.objs.size + 1, s1.heap.objs.size], _, _, H1, rfl, I2, turn_enumS x t (s1.heap.objs.size + 1) s1.heap.objs.size, ⟨⟨.none, he⟩, hit, Nat.succ_ne_self _⟩, fun b hb => ?_, q⟩
    have e' : b = s1.heap.objs.size + 1 ∨ b = s1.heap.objs.size := by simpa using hb
    have hle : s1.heap.objs.size ≤ b := by
      rcases e' with z | z
      · rw [z]; exact Nat.le_add_right _ _
      · rw [z]; exact Nat.le_refl _
    exact I1.fpOk hle (I1.hok.fresh hle)
theorem for_enumS {x : Str} {g : TG} {tb : TS} {D : Ends} {σ : L2.St} {H : Hp} (Pv : Nat → L2.St → Hp → Prop) (h0 : Pv 0 σ H)
    (hs : ∀ i c σ H T, x.cps[i]? = some c → Pv i σ H → H T = none → g (.ref T) σ (upd H T (.tup [.int (i : Nat), .str ⟨#[c]⟩])) fun σ2 H2 => tb { D with nx := Pv (i + 1), ct := Pv (i + 1), bk := D.nx } σ2 H2) (hd : ∀ σ H, Pv x.cps.size σ H → D.nx σ H) :
    ∃ W : Nat → Nat → L2.St → Hp → Prop, (∃ m, W 0 m σ H) ∧ ∀ i m σ H, W i m σ H →
      ((Ites x).stop i H ∧ D.nx σ H) ∨ ((Ites x).go i H ∧ ∃ N : L2.St → Hp → Prop, (∀ σ' H', N σ' H' → ∃ m', m' < m ∧ W (i + 1) m' σ' H') ∧ ∀ v H', (Ites x).yld i H v H' → g v σ H' fun σ2 H2 => tb { D with nx := N, ct := N, bk := D.nx } σ2 H2) := by
  refine ⟨fun i m σ H => m = x.cps.size - i ∧ i ≤ x.cps.size ∧ Pv i σ H, ⟨x.cps.size, rfl, Nat.zero_le _, h0⟩, ?_⟩
  rintro i m σ H ⟨rfl, hi, p⟩
  by_cases hlt : i < x.cps.size
  · refine .inr ⟨hlt, Pv (i + 1), fun σ' H' p' => ⟨x.cps.size - (i + 1), by omega, rfl, hlt, p'⟩, fun v H' hy => ?_⟩
    obtain ⟨T, c, rfl, hT, rfl, hc⟩ := hy
    exact hs i c σ H T hc p hT
  · have e : i = x.cps.size := by omega
    subst e
    exact .inl ⟨rfl, hd σ H p⟩
end JW
namespace JW
open PySem PySem.Spec PyProof.Rows L2 LamX
abbrev cF (K : PySem.W.Frag) : Addr := He.ga K "Fountain"
def tx (t : T) : Str := ⟨t.codes.toArray⟩
theorem tx_inj {t u : T} (h : tx t = tx u) : t = u := codes_inj (by
  have e : t.codes.toArray = u.codes.toArray := congrArg Str.cps h
  exact congrArg Array.toList e)
theorem tx_jet : tx .jet = "o" := by decide +kernel
def T.kids : T → List T
  | .jet => []
  | .bas l => l
def nums (t : T) : List V := [.int (t.size : Nat), .int (t.jts : Nat), .int (t.dep : Nat), if t.jts = 0 then .non else .int (t.lng : Nat), if t.jts = 0 then .non else .int (t.sht : Nat)]
def flds (t : T) (b n : Addr) : List (Str × V) := [("written", .str (tx t)), ("branches", .ref b), ("numbers", .ref n)]
theorem fl_w {t : T} {b n : Addr} : (flds t b n).lookup ("written" : Str) = some (.str (tx t)) := by kernel_rfl
theorem fl_b {t : T} {b n : Addr} : (flds t b n).lookup ("branches" : Str) = some (.ref b) := by kernel_rfl
theorem fl_n {t : T} {b n : Addr} : (flds t b n).lookup ("numbers" : Str) = some (.ref n) := by kernel_rfl
theorem fl_put {t : T} {b n : Addr} : putF "numbers" (.ref n) (putF "branches" (.ref b) (putF "written" (.str (tx t)) [])) = flds t b n := by kernel_rfl
theorem fl_l1 {v : V} : (putF ("written" : Str) v []).length < 1000 := by
  have e : putF ("written" : Str) v [] = [(("written" : Str), v)] := by kernel_rfl
  rw [e]
  show 1 < 1000
  decide
theorem fl_l2 {v w : V} : (putF ("branches" : Str) w (putF ("written" : Str) v [])).length < 1000 := by
  have e : putF ("branches" : Str) w (putF ("written" : Str) v []) = [(("written" : Str), v), (("branches" : Str), w)] := by kernel_rfl
  rw [e]
  show 2 < 1000
  decide
mutual
def Ftn (C : Addr) (H : Hp) : T → V → Prop
  | .jet, v => ∃ a dx b n, v = .ref a ∧ H a = some (.ins C dx (flds .jet b n)) ∧ H b = some (.tup []) ∧ H n = some (.tup (nums .jet))
  | .bas l, v => ∃ a dx b n vs, v = .ref a ∧ H a = some (.ins C dx (flds (.bas l) b n)) ∧ H b = some (.tup vs) ∧ H n = some (.tup (nums (.bas l))) ∧ FtnL C H l vs
def FtnL (C : Addr) (H : Hp) : List T → List V → Prop
  | [], vs => vs = []
  | t :: ts, vs => ∃ v r, vs = v :: r ∧ Ftn C H t v ∧ FtnL C H ts r
end
section
variable {C : Addr} {H H' : Hp}
theorem ftn_iff {t : T} {v : V} : Ftn C H t v ↔ ∃ a dx b n vs, v = .ref a ∧ H a = some (.ins C dx (flds t b n)) ∧ H b = some (.tup vs) ∧ H n = some (.tup (nums t)) ∧ FtnL C H t.kids vs := by
  cases t with
  | jet =>
    constructor
    · intro h
      have h2 : ∃ a dx b n, v = .ref a ∧ H a = some (.ins C dx (flds .jet b n)) ∧ H b = some (.tup []) ∧ H n = some (.tup (nums .jet)) := h
      obtain ⟨a, dx, b, n, e, h1, h2, h3⟩ := h2
      exact ⟨a, dx, b, n, [], e, h1, h2, h3, rfl⟩
    · intro ⟨a, dx, b, n, vs, e, h1, h2, h3, h4⟩
      have e4 : vs = [] := h4
      subst e4
      exact ⟨a, dx, b, n, e, h1, h2, h3⟩
  | bas l => exact ⟨fun h => h, fun h => h⟩
theorem Same.extN (s : L2.Same H H') : ExtN H H' := ExtN.of s
mutual
theorem ftn_ext (e : ExtN H H') : ∀ (t : T) (v : V), Ftn C H t v → Ftn C H' t v
  | .jet, v, h => by
    have h2 : ∃ a dx b n, v = .ref a ∧ H a = some (.ins C dx (flds .jet b n)) ∧ H b = some (.tup []) ∧ H n = some (.tup (nums .jet)) := h
    obtain ⟨a, dx, b, n, ev, h1, h2, h3⟩ := h2
    exact ⟨a, dx, b, n, ev, e _ _ h1 (fun ps z => by cases z), e _ _ h2 (fun ps z => by cases z), e _ _ h3 (fun ps z => by cases z)⟩
  | .bas l, v, h => by
    have h2 : ∃ a dx b n vs, v = .ref a ∧ H a = some (.ins C dx (flds (.bas l) b n)) ∧ H b = some (.tup vs) ∧ H n = some (.tup (nums (.bas l))) ∧ FtnL C H l vs := h
    obtain ⟨a, dx, b, n, vs, ev, h1, h2, h3, h4⟩ := h2
    exact ⟨a, dx, b, n, vs, ev, e _ _ h1 (fun ps z => by cases z), e _ _ h2 (fun ps z => by cases z), e _ _ h3 (fun ps z => by cases z), ftnL_ext e l vs h4⟩
theorem ftnL_ext (e : ExtN H H') : ∀ (l : List T) (vs : List V), FtnL C H l vs → FtnL C H' l vs
  | [], vs, h => h
  | t :: ts, vs, h => by
    have h2 : ∃ v r, vs = v :: r ∧ Ftn C H t v ∧ FtnL C H ts r := h
    obtain ⟨v, r, ev, h1, h2⟩ := h2
    exact ⟨v, r, ev, ftn_ext e t v h1, ftnL_ext e ts r h2⟩
end
theorem Ftn.ext {t : T} {v : V} (h : Ftn C H t v) (e : ExtN H H') : Ftn C H' t v := ftn_ext e t v h
theorem FtnL.ext {l : List T} {vs : List V} (h : FtnL C H l vs) (e : ExtN H H') : FtnL C H' l vs := ftnL_ext e l vs h
theorem Ftn.same {t : T} {v : V} (h : Ftn C H t v) (e : L2.Same H H') : Ftn C H' t v := h.ext (.of e)
theorem FtnL.same {l : List T} {vs : List V} (h : FtnL C H l vs) (e : L2.Same H H') : FtnL C H' l vs := h.ext (.of e)
theorem FtnL.len : ∀ {l : List T} {vs : List V}, FtnL C H l vs → vs.length = l.length
  | [], vs, h => by
    have e : vs = [] := h
    rw [e] <;> rfl
  | t :: ts, vs, h => by
    obtain ⟨v, r, rfl, _, h2⟩ := (show ∃ v r, vs = v :: r ∧ Ftn C H t v ∧ FtnL C H ts r from h)
    rw [List.length_cons, List.length_cons, h2.len]
theorem FtnL.get : ∀ {l : List T} {vs : List V} {i : Nat} {v : V}, FtnL C H l vs → vs[i]? = some v → ∃ t, l[i]? = some t ∧ Ftn C H t v
  | [], vs, i, v, h, e => by
    have e2 : vs = [] := h
    rw [e2] at e
    simp at e
  | t :: ts, vs, i, v, h, e => by
    obtain ⟨u, r, rfl, h1, h2⟩ := (show ∃ v r, vs = v :: r ∧ Ftn C H t v ∧ FtnL C H ts r from h)
    cases i with
    | zero =>
      have e3 : u = v := by simpa using e
      exact ⟨t, rfl, e3 ▸ h1⟩
    | succ i =>
      obtain ⟨t', e1, e2⟩ := h2.get (i := i) (v := v) (by simpa using e)
      exact ⟨t', by simpa using e1, e2⟩
theorem FtnL.app : ∀ {l m : List T} {vs ws : List V}, FtnL C H l vs → FtnL C H m ws → FtnL C H (l ++ m) (vs ++ ws)
  | [], m, vs, ws, h, h' => by
    have e : vs = [] := h
    rw [e]
    exact h'
  | t :: ts, m, vs, ws, h, h' => by
    obtain ⟨u, r, rfl, h1, h2⟩ := (show ∃ v r, vs = v :: r ∧ Ftn C H t v ∧ FtnL C H ts r from h)
    exact ⟨u, r ++ ws, rfl, h1, h2.app h'⟩
theorem FtnL.one {t : T} {v : V} (h : Ftn C H t v) : FtnL C H [t] [v] := ⟨v, [], rfl, h, rfl⟩
theorem FtnL.zip : ∀ {l : List T} {vs : List V}, FtnL C H l vs → ∀ p ∈ (l.map tx).zip vs, ∃ t, p.1 = tx t ∧ Ftn C H t p.2
  | [], vs, _, p, hp => by
    rw [List.map_nil, List.zip_nil_left] at hp
    cases hp
  | t :: ts, vs, h, p, hp => by
    obtain ⟨u, r, rfl, h1, h2⟩ := (show ∃ v r, vs = v :: r ∧ Ftn C H t v ∧ FtnL C H ts r from h)
    rw [List.map_cons, List.zip_cons_cons] at hp
    rcases List.mem_cons.mp hp with e | e
    · exact ⟨t, by rw [e], by rw [e]; exact h1⟩
    · exact FtnL.zip h2 p e
theorem ftnL_sort {l : List T} {vs ys : List V} (h : FtnL C H l vs) (k : KeydV (l.map tx) vs ys) : FtnL C H (sortT l) ys := by
  obtain ⟨ps, pm, pw, rfl⟩ := k
  have hall : ∀ p ∈ ps, ∃ t, p.1 = tx t ∧ Ftn C H t p.2 := fun p hp => h.zip p (pm.mem_iff.mp hp)
  have go : ∀ ps : List (Str × V), (∀ p ∈ ps, ∃ t, p.1 = tx t ∧ Ftn C H t p.2) → ∃ us : List T, us.map tx = ps.map (·.1) ∧ FtnL C H us (ps.map (·.2)) := by
    intro ps
    induction ps with
    | nil => exact fun _ => ⟨[], rfl, rfl⟩
    | cons p r ih =>
      intro hp
      obtain ⟨us, e1, e2⟩ := ih fun q hq => hp q (List.mem_cons_of_mem _ hq)
      obtain ⟨t, e3, e4⟩ := hp p List.mem_cons_self
      exact ⟨t :: us, by rw [List.map_cons, List.map_cons, e1, e3], p.2, r.map (·.2), rfl, e4, e2⟩
  obtain ⟨us, e1, e2⟩ := go ps hall
  have hs : Srt us := by
    have q1 : (ps.map (·.1)).Pairwise (fun p q : Str => ¬ q.cps.toList < p.cps.toList) := List.pairwise_map.mpr pw
    rw [← e1] at q1
    refine (List.pairwise_map.mp q1).imp fun {a b} z => ?_
    unfold tle
    simp only [Bool.not_eq_true', decide_eq_false_iff_not]
    exact z
  have hfst : ((l.map tx).zip vs).map (·.1) = l.map tx := by
    rw [List.map_fst_zip]
    rw [List.length_map, h.len]
    exact Nat.le_refl _
  have hp : (us.map tx).Perm (l.map tx) := by
    rw [e1, ← hfst]
    exact pm.map _
  have un : ∃ g : Str → T, ∀ t, g (tx t) = t := by
    classical
    refine ⟨fun z => if e : ∃ t, tx t = z then e.choose else .jet, fun t => ?_⟩
    have e : ∃ u, tx u = tx t := ⟨t, rfl⟩
    show (if e : ∃ u, tx u = tx t then e.choose else T.jet) = t
    rw [dif_pos e]
    exact tx_inj e.choose_spec
  obtain ⟨g, hg⟩ := un
  have hp2 := hp.map g
  rw [List.map_map, List.map_map] at hp2
  have eid : (g ∘ tx) = id := funext hg
  rw [eid, List.map_id, List.map_id] at hp2
  rw [← sortT_eq hp2 hs]
  exact e2
end
structure ClsF (K : PySem.W.Frag) (mg : Str → Option Value) : Prop where
  g : mg "Fountain" = some (.ref (cF K))
  c : Cls K (cF K)
  nw : NoAttr K (cF K) "written"
  nb : NoAttr K (cF K) "branches"
  nn : NoAttr K (cF K) "numbers"
  hcl : PySem.W.findIn K (.ref (cF K)) "__class__" = some (some (.builtin "object.__class__"))
  hgs : PySem.W.specialIn K (.builtin "object.__class__") "__get__" = some (some (.builtin "getset_descriptor.__get__"))
  htk : PySem.W.takesIn K (.builtin "object.__class__") = some true
  hmro : PySem.W.mroIn K (cF K) (.type "object") = some true
  hne : PySem.W.findIn K (.ref (cF K)) "__ne__" = some (some (.builtin "object.__ne__"))
  hob : PySem.W.subIn K (.ref (cF K)) (.type "object") = some true
  sf : PySem.W.selfFirst K (cF K) = true
theorem ClsF.ty {K : PySem.W.Frag} {mg : Str → Option Value} (c : ClsF K mg) {H : Hp} {a dx : Addr} {fs : List (Str × V)} (e : H a = some (.ins (cF K) dx fs)) : TyX K H (.ref a) (.ref (cF K)) := .base (.ins e c.c c.hcl c.hgs c.htk c.hmro)
theorem isi_self {K : PySem.W.Frag} : PySem.W.kitOne K (.ref (cF K)) (.ref (cF K)) = some true := by
  unfold PySem.W.kitOne
  exact if_pos (by simp)
structure MakeD (P : Program) (w : World) (K : PySem.W.Frag) (mg : Str → Option Value) (base : Heap) (CX : CXT) (k : Nat) (x : Str) (C : Addr) (ps : List Str) (dvs : List V) (sp : Sp) : Prop where
  ex : ∃ f fd ds, mg x = some (.ref C) ∧ Mk K C f ∧ Binds K fd ps ds ∧ Vals dvs ds ∧ FnOk P w K mg base CX k f fd ps sp
structure InitAt (K : PySem.W.Frag) (mg : Str → Option Value) (x : Str) (C : Addr) (qual : Str) (st : Stmt) (dvs : List V) (ps : List Str) : Prop where
  ex : ∃ f fd, mg x = some (.ref C) ∧ Mk K C f ∧ FunD K "__init__" qual (defArgs st) (defBody st) (defScope st) dvs [] f fd ∧ ∀ j, j ≤ dvs.length → ∃ ds, Vals (dvs.drop j) ds ∧ Binds K fd ps ds
section
variable {P : Program} {w : World} {K : PySem.W.Frag} {mg : Str → Option Value} {base : Heap} {CX : CXT} {C : Addr} {x : Str}
theorem MakeD.mono {j k : Nat} {ps : List Str} {dvs : List V} {sp : Sp} (c : MakeD P w K mg base CX j x C ps dvs sp) (h : j ≤ k) : MakeD P w K mg base CX k x C ps dvs sp := by
  obtain ⟨f, fd, ds, h1, h2, h3, h4, F⟩ := c.ex
  exact ⟨f, fd, ds, h1, h2, h3, h4, F.mono h⟩
theorem InitAt.ok {qual : Str} {st : Stmt} {N ps : List Str} {k : Nat} {sp : Sp} {dvs : List V} (D : InitAt K mg x C qual st dvs ps) (j : Nat) (hj : j ≤ dvs.length) (S : FnScope N ps (defScope st)) (len : ∀ vs H Q E, sp vs H Q E → vs.length = ps.length)
    (hbody : ∀ (f : Addr) (cdv : Value) (A : Around) (outer : List Env) (s : Shared) (H : Hp) (vs : List V) (Q : VK) (E : XK), Room k (A.deeper (envOfC qual (defScope st) s.heap.objs.size f cdv)) → sp vs H Q E →
      ∃ t, PSs (cxOf CX P w K mg base N qual (defScope st) f cdv A outer s H E).nox (defBody st) t ∧ t { nx := fun _ H' => Q .non H', rt := Q } (start N vs) H) : MakeD P w K mg base CX (k + 1) x C ps (dvs.drop j) sp := by
  obtain ⟨f, fd, h1, h2, F, b⟩ := D.ex
  obtain ⟨ds, r, hb⟩ := b j hj
  exact ⟨f, fd, ds, h1, h2, hb, r, okF F S len fun cdv A outer s H vs Q E hr h => hbody f cdv A outer s H vs Q E hr h⟩
end
section
variable {X : Cx} {CX : CXT} {k : Nat} {C : Addr} {ps : List Str} {sp : Sp} {dvs : List V} {E : XK} {x : Str} {p pos : Pos} {e : Expr} {es : List Expr} {t : TA}
theorem pe_makeD (M : MakeD X.prog X.w X.K X.mg X.base CX k x C ps dvs sp) (hr : Room (k + 1) X.A) (hg : Gl X x) (hx : Passes CX X E) (ha : PA X (e :: es) t) (hdb : (x == ("__debug__" : Str)) = false := by decide)
    (he : starEach (e :: es) X.env = (false, eval e X.env) :: starEach es X.env := by rfl) (hpl : (backTo pos (starEach es X.env)).any (·.1) = false := by rfl) : PE X (.Call (.Name x p) (e :: es) [] pos) (tMake C sp dvs E t) := by
  obtain ⟨f, fd, ds, h1, h2, h3, h4, F⟩ := M.ex
  exact pe_make h2 F hr hg h1 h3 h4 hx ha hdb he hpl
end
theorem okC {P : Program} {w : World} {K : PySem.W.Frag} {mg : Str → Option Value} {base : Heap} {CX : CXT} {x qual : Str} {params : Arguments} {body : List Stmt} {scope : Scope} {kws : List (Str × V)} {fd : FuncData} {N ps : List Str} {k : Nat} {sp : Sp} {dvs : List V} {p : Str × Option Str}
    (F : FunD K x qual params body scope dvs kws (He.fAd K p) fd) (S : FnScope N ps scope) (len : ∀ vs H Q E, sp vs H Q E → vs.length = ps.length)
    (hbody : ∀ (A : Around) (outer : List Env) (s : Shared) (H : Hp) (vs : List V) (Q : VK) (E : XK), Room k (A.deeper (envOfC qual scope s.heap.objs.size (He.fAd K p) (.ref (He.codeOf K p)))) → sp vs H Q E →
      ∃ t, PSs (cxOf CX P w K mg base N qual scope (He.fAd K p) (.ref (He.codeOf K p)) A outer s H E).nox body t ∧ t { nx := fun _ H' => Q .non H', rt := Q } (start N vs) H) : FnOk P w K mg base CX (k + 1) (He.fAd K p) fd ps sp := by
  obtain ⟨oc, od, dV, kV, doc, pm, an, cdv, ct, osl, rfl, lk, hcd, _, _⟩ := F.ex
  obtain ⟨c, rfl⟩ := He.codeIn_ref hcd
  have ec : He.codeOf K p = c := He.codeOf_eq lk rfl
  subst ec
  exact fn_of lk hcd S len fun A outer s H vs Q E hr h => by
    obtain ⟨t, h, q⟩ := hbody A outer s H vs Q E hr h
    exact ⟨t, h.nox, q⟩
structure DefAtP (K : PySem.W.Frag) (mg : Str → Option Value) (x qual : Str) (st : Stmt) (ps : List Str) : Prop where
  g : mg x = some (.ref (He.fAd K (x, none)))
  f : ∃ fd, FunD K x qual (defArgs st) (defBody st) (defScope st) [] [] (He.fAd K (x, none)) fd ∧ Binds K fd ps []
theorem DefAtP.at {K : PySem.W.Frag} {mg : Str → Option Value} {x qual : Str} {st : Stmt} {ps : List Str} (d : DefAtP K mg x qual st ps) : DefAt K mg x qual st [] ps := by
  obtain ⟨fd, F, b⟩ := d.f
  exact ⟨_, fd, d.g, F, b⟩
theorem DefAtP.okC {P : Program} {w : World} {K : PySem.W.Frag} {mg : Str → Option Value} {base : Heap} {CX : CXT} {x qual : Str} {st : Stmt} {N ps : List Str} {k : Nat} {sp : Sp} (D : DefAtP K mg x qual st ps) (S : FnScope N ps (defScope st)) (len : ∀ vs H Q E, sp vs H Q E → vs.length = ps.length)
    (hbody : ∀ (A : Around) (outer : List Env) (s : Shared) (H : Hp) (vs : List V) (Q : VK) (E : XK), Room k (A.deeper (envOfC qual (defScope st) s.heap.objs.size (He.fAd K (x, none)) (.ref (He.codeOf K (x, none))))) → sp vs H Q E →
      ∃ t, PSs (cxOf CX P w K mg base N qual (defScope st) (He.fAd K (x, none)) (.ref (He.codeOf K (x, none))) A outer s H E).nox (defBody st) t ∧ t { nx := fun _ H' => Q .non H', rt := Q } (start N vs) H) : CallD P w K mg base CX (k + 1) x ps [] sp := by
  obtain ⟨fd, F, b⟩ := D.f
  exact ⟨_, fd, [], D.g, F.kp, b, .nil, JW.okC F S len hbody⟩
def spV (K : PySem.W.Frag) (f : T → V) : Sp := fun vs H Q _ => ∃ v t, vs = [v] ∧ Ftn (cF K) H t v ∧ Q (f t) H
theorem ev_prop {K : PySem.W.Frag} {f : T → V} {H : Hp} {t : T} {v : V} {Q : VK} {E : XK} (h : Ftn (cF K) H t v) (q : Q (f t) H) : ∃ a dx fs, v = .ref a ∧ H a = some (.ins (cF K) dx fs) ∧ spV K f (.ref a :: []) H Q E := by
  obtain ⟨a, dx, b, n, vs, rfl, h1, _⟩ := ftn_iff.mp h
  exact ⟨a, dx, _, rfl, h1, _, t, rfl, h, q⟩
def spKids (K : PySem.W.Frag) : Sp := fun vs H Q _ => ∃ v t, vs = [v] ∧ Ftn (cF K) H t v ∧ ∀ b xs, H b = some (.tup xs) → FtnL (cF K) H t.kids xs → Q (.ref b) H
theorem ev_kids {K : PySem.W.Frag} {H : Hp} {t : T} {v : V} {Q : VK} {E : XK} (h : Ftn (cF K) H t v) (q : ∀ b xs, H b = some (.tup xs) → FtnL (cF K) H t.kids xs → Q (.ref b) H) : ∃ a dx fs, v = .ref a ∧ H a = some (.ins (cF K) dx fs) ∧ spKids K (.ref a :: []) H Q E := by
  obtain ⟨a, dx, b, n, vs, rfl, h1, _⟩ := ftn_iff.mp h
  exact ⟨a, dx, _, rfl, h1, _, t, rfl, h, q⟩
theorem lc_eachL {K : PySem.W.Frag} {a : Addr} {xs ys : List V} {j : Nat} {te : TE} {σ : L2.St} {H1 : Hp} {D : Addr} {Qd : Hp → Prop} (hD : H1 D = none) (hl : SqL K H1 a xs) (hz : xs.length < sizeLine) (hy : ys.length = xs.length)
    (hw : ∀ x : V, wipe ((wipe σ [j]).set j (some x)) [j] = wipe σ [j]) (hs : ∀ (i : Nat) (x y : V) (H : Hp) (Q : VK), xs[i]? = some x → ys[i]? = some y → L2.Same H1 H → H D ≠ none → (∀ H', L2.Same H H' → Q y H') → te ((wipe σ [j]).set j (some x)) H Q)
    (hd : ∀ H, L2.Same H1 H → H D = some (.lst ys) → Qd H) : ∃ W : Nat → Nat → Hp → Prop, (∃ m, W 0 m (upd H1 D (.lst []))) ∧ ∀ i m H, W i m H →
      ((Itl K a).stop i H ∧ Qd H) ∨ ((Itl K a).go i H ∧ ∃ Nx : Hp → Prop, (∀ H', Nx H' → ∃ m', m' < m ∧ W (i + 1) m' H') ∧ ∀ x H', (Itl K a).yld i H x H' → gName j x (wipe σ [j]) H' fun σ2 H2 => wipe σ2 [j] = wipe σ [j] ∧ tYes σ2 H2 fun b H3 =>
        if b = true then te σ2 H3 fun y H4 => ∃ acc, H4 D = some (.lst acc) ∧ acc.length < sizeLine ∧ Nx (upd H4 D (.lst (acc ++ [y]))) else Nx H3) := by
  have slq : ∀ H, L2.Same H1 H → SqL K H a xs := fun H s => by
    rcases hl with (h | ⟨o, h⟩) | h
    · exact .inl (.inl (s _ _ h))
    · exact .inl (.inr ⟨o, s _ _ h⟩)
    · exact .inr h
  refine lc_list (fun i H => L2.Same H1 H ∧ H D = some (.lst (ys.take i))) ⟨L2.Same.new (L2.Same.refl H1) hD, by rw [upd_same, List.take_zero]⟩ (fun i H _ p => slq H p.1) (fun i x H hx p => ?_) fun H p => hd H p.1 (by rw [p.2, ← hy, List.take_length])
  have hi : i < xs.length := (List.getElem?_eq_some_iff.mp hx).1
  have hyi : ys[i]? = some ys[i] := List.getElem?_eq_getElem (by omega)
  refine ⟨hw x, ?_⟩
  show te _ H _
  refine hs i x ys[i] H _ hx hyi p.1 (by rw [p.2]; exact fun z => by cases z) fun H' s' => ⟨_, s' _ _ p.2, ?_, ?_, ?_⟩
  · rw [List.length_take]; omega
  · exact L2.Same.mine (p.1.trans s') hD
  · rw [upd_same, List.take_succ, hyi]
    rfl
theorem lc_eachT {K : PySem.W.Frag} {a : Addr} {xs ys : List V} {j : Nat} {te : TE} {σ : L2.St} {H1 : Hp} {D : Addr} {Qd : Hp → Prop} (hD : H1 D = none) (hl : SqT K H1 a xs) (hz : xs.length < sizeLine) (hy : ys.length = xs.length)
    (hw : ∀ x : V, wipe ((wipe σ [j]).set j (some x)) [j] = wipe σ [j]) (hs : ∀ (i : Nat) (x y : V) (H : Hp) (Q : VK), xs[i]? = some x → ys[i]? = some y → L2.Same H1 H → H D ≠ none → (∀ H', L2.Same H H' → Q y H') → te ((wipe σ [j]).set j (some x)) H Q)
    (hd : ∀ H, L2.Same H1 H → H D = some (.lst ys) → Qd H) : ∃ W : Nat → Nat → Hp → Prop, (∃ m, W 0 m (upd H1 D (.lst []))) ∧ ∀ i m H, W i m H →
      ((Itt K a).stop i H ∧ Qd H) ∨ ((Itt K a).go i H ∧ ∃ Nx : Hp → Prop, (∀ H', Nx H' → ∃ m', m' < m ∧ W (i + 1) m' H') ∧ ∀ x H', (Itt K a).yld i H x H' → gName j x (wipe σ [j]) H' fun σ2 H2 => wipe σ2 [j] = wipe σ [j] ∧ tYes σ2 H2 fun b H3 =>
        if b = true then te σ2 H3 fun y H4 => ∃ acc, H4 D = some (.lst acc) ∧ acc.length < sizeLine ∧ Nx (upd H4 D (.lst (acc ++ [y]))) else Nx H3) := by
  have slq : ∀ H, L2.Same H1 H → SqT K H a xs := fun H s => by
    rcases hl with (h | ⟨o, h⟩) | h
    · exact .inl (.inl (s _ _ h))
    · exact .inl (.inr ⟨o, s _ _ h⟩)
    · exact .inr h
  refine lc_tup (fun i H => L2.Same H1 H ∧ H D = some (.lst (ys.take i))) ⟨L2.Same.new (L2.Same.refl H1) hD, by rw [upd_same, List.take_zero]⟩ (fun i H _ p => slq H p.1) (fun i x H hx p => ?_) fun H p => hd H p.1 (by rw [p.2, ← hy, List.take_length])
  have hi : i < xs.length := (List.getElem?_eq_some_iff.mp hx).1
  have hyi : ys[i]? = some ys[i] := List.getElem?_eq_getElem (by omega)
  refine ⟨hw x, ?_⟩
  show te _ H _
  refine hs i x ys[i] H _ hx hyi p.1 (by rw [p.2]; exact fun z => by cases z) fun H' s' => ⟨_, s' _ _ p.2, ?_, ?_, ?_⟩
  · rw [List.length_take]; omega
  · exact L2.Same.mine (p.1.trans s') hD
  · rw [upd_same, List.take_succ, hyi]
    rfl
theorem lc_someT {K : PySem.W.Frag} {a : Addr} {xs : List V} {bs : List Bool} {j : Nat} {tt : TT} {te : TE} {σ : L2.St} {H1 : Hp} {D : Addr} {Qd : Hp → Prop} (hD : H1 D = none) (hl : SqT K H1 a xs) (hz : xs.length < sizeLine) (hy : bs.length = xs.length)
    (hw : ∀ x : V, wipe ((wipe σ [j]).set j (some x)) [j] = wipe σ [j]) (ht : ∀ (i : Nat) (x : V) (b : Bool) (H : Hp) (Q : Bool → Hp → Prop), xs[i]? = some x → bs[i]? = some b → L2.Same H1 H → (∀ H', L2.Same H H' → Q b H') → tt ((wipe σ [j]).set j (some x)) H Q)
    (hs : ∀ (i : Nat) (x : V) (H : Hp) (Q : VK), xs[i]? = some x → L2.Same H1 H → (∀ H', L2.Same H H' → Q x H') → te ((wipe σ [j]).set j (some x)) H Q)
    (hd : ∀ H, L2.Same H1 H → H D = some (.lst (((xs.zip bs).filter (·.2)).map (·.1))) → Qd H) : ∃ W : Nat → Nat → Hp → Prop, (∃ m, W 0 m (upd H1 D (.lst []))) ∧ ∀ i m H, W i m H →
      ((Itt K a).stop i H ∧ Qd H) ∨ ((Itt K a).go i H ∧ ∃ Nx : Hp → Prop, (∀ H', Nx H' → ∃ m', m' < m ∧ W (i + 1) m' H') ∧ ∀ x H', (Itt K a).yld i H x H' → gName j x (wipe σ [j]) H' fun σ2 H2 => wipe σ2 [j] = wipe σ [j] ∧ tt σ2 H2 fun b H3 =>
        if b = true then te σ2 H3 fun y H4 => ∃ acc, H4 D = some (.lst acc) ∧ acc.length < sizeLine ∧ Nx (upd H4 D (.lst (acc ++ [y]))) else Nx H3) := by
  have slq : ∀ H, L2.Same H1 H → SqT K H a xs := fun H s => by
    rcases hl with (h | ⟨o, h⟩) | h
    · exact .inl (.inl (s _ _ h))
    · exact .inl (.inr ⟨o, s _ _ h⟩)
    · exact .inr h
  have hzl : (xs.zip bs).length = xs.length := by rw [List.length_zip, hy, Nat.min_self]
  refine lc_tup (fun i H => L2.Same H1 H ∧ H D = some (.lst ((((xs.zip bs).take i).filter (·.2)).map (·.1)))) ⟨L2.Same.new (L2.Same.refl H1) hD, by rw [upd_same, List.take_zero]; rfl⟩ (fun i H _ p => slq H p.1) (fun i x H hx p => ?_) fun H p => hd H p.1 (by rw [p.2, ← hzl, List.take_length])
  have hi : i < xs.length := (List.getElem?_eq_some_iff.mp hx).1
  have hyi : bs[i]? = some bs[i] := List.getElem?_eq_getElem (by omega)
  have hzi : (xs.zip bs)[i]? = some (x, bs[i]) := by
    rw [List.getElem?_zip_eq_some]
    exact ⟨hx, hyi⟩
  refine ⟨hw x, ht i x bs[i] H _ hx hyi p.1 fun H' s' => ?_⟩
  cases hb : bs[i] with
  | true =>
    rw [if_pos rfl]
    refine hs i x H' _ hx (p.1.trans s') fun H2 s2 => ⟨_, s2 _ _ (s' _ _ p.2), ?_, ?_, ?_⟩
    · rw [List.length_map]
      refine Nat.lt_of_le_of_lt (List.length_filter_le _ _) ?_
      rw [List.length_take]
      omega
    · exact L2.Same.mine (p.1.trans (s'.trans s2)) hD
    · rw [upd_same, List.take_succ, hzi, hb]
      rw [List.filter_append, List.map_append]
      rfl
  | false =>
    rw [if_neg (by simp)]
    refine ⟨p.1.trans s', ?_⟩
    rw [s' _ _ p.2, List.take_succ, hzi, hb, List.filter_append, List.map_append]
    show _ = some (HO.lst (_ ++ []))
    rw [List.append_nil]
theorem pe_gint {X : Cx} {x : Str} {i : Int} {pos : Pos} (hg : Gl X x) (h : ∃ t, X.mg x = some (.int i t)) (hd : (x == ("__debug__" : Str)) = false := by decide) : PE X (.Name x pos) (tC (.int i)) := by
  obtain ⟨t, e⟩ := h
  exact pe_glob hg e ⟨t, rfl⟩ hd
theorem pe_gstr {X : Cx} {x z : Str} {pos : Pos} (hg : Gl X x) (h : ∃ t, X.mg x = some (.str z t)) (hd : (x == ("__debug__" : Str)) = false := by decide) : PE X (.Name x pos) (tC (.str z)) := by
  obtain ⟨t, e⟩ := h
  exact pe_glob hg e ⟨t, rfl⟩ hd
theorem PropAt.ok {P : Program} {w : World} {K : PySem.W.Frag} {mg : Str → Option Value} {base : Heap} {CX : CXT} {C : Addr} {m qual : Str} {st : Stmt} {N : List Str} {k : Nat} {sp : Sp} (D : PropAt K C m qual st) (S : FnScope N ["self"] (defScope st)) (len : ∀ vs H Q E, sp vs H Q E → vs.length = (["self"] : List Str).length)
    (hbody : ∀ (f : Addr) (cdv : Value) (A : Around) (outer : List Env) (s : Shared) (H : Hp) (vs : List V) (Q : VK) (E : XK), Room k (A.deeper (envOfC qual (defScope st) s.heap.objs.size f cdv)) → sp vs H Q E →
      ∃ t, PSs (cxOf CX P w K mg base N qual (defScope st) f cdv A outer s H E).nox (defBody st) t ∧ t { nx := fun _ H' => Q .non H', rt := Q } (start N vs) H) : PropD P w K mg base CX (k + 1) C m sp := by
  obtain ⟨p, g, fd, h1, F, b⟩ := D.ex
  exact ⟨p, g, fd, h1, b, okF F S len fun cdv A outer s H vs Q E hr h => hbody g cdv A outer s H vs Q E hr h⟩
theorem PropD.mono {P : Program} {w : World} {K : PySem.W.Frag} {mg : Str → Option Value} {base : Heap} {CX : CXT} {C : Addr} {f : Str} {sp : Sp} {j k : Nat} (c : PropD P w K mg base CX j C f sp) (h : j ≤ k) : PropD P w K mg base CX k C f sp := by
  obtain ⟨p, g, fd, h1, h2, F⟩ := c.ex
  exact ⟨p, g, fd, h1, h2, F.mono h⟩
theorem map_get {α β : Type} {l : List α} {f : α → β} {i : Nat} {t : α} {y : β} (h1 : l[i]? = some t) (h2 : (l.map f)[i]? = some y) : y = f t := by
  rw [List.getElem?_map, h1] at h2
  exact (Option.some.inj h2).symm
theorem lc_propT {K : PySem.W.Frag} {a : Addr} {xs : List V} {l : List T} {f : T → V} {j : Nat} {E : XK} {σ : L2.St} {H1 : Hp} {D : Addr} {Qd : Hp → Prop} (hD : H1 D = none) (hl : SqT K H1 a xs) (hf : FtnL (cF K) H1 l xs) (hz : xs.length < sizeLine)
    (hw : ∀ x : V, wipe ((wipe σ [j]).set j (some x)) [j] = wipe σ [j]) (hv : ∀ x : V, ((wipe σ [j]).set j (some x))[j]? = some (some x)) (hd : ∀ H, L2.Same H1 H → H D = some (.lst (l.map f)) → Qd H) : ∃ W : Nat → Nat → Hp → Prop, (∃ m, W 0 m (upd H1 D (.lst []))) ∧ ∀ i m H, W i m H →
      ((Itt K a).stop i H ∧ Qd H) ∨ ((Itt K a).go i H ∧ ∃ Nx : Hp → Prop, (∀ H', Nx H' → ∃ m', m' < m ∧ W (i + 1) m' H') ∧ ∀ x H', (Itt K a).yld i H x H' → gName j x (wipe σ [j]) H' fun σ2 H2 => wipe σ2 [j] = wipe σ [j] ∧ tYes σ2 H2 fun b H3 =>
        if b = true then tProp (cF K) (spV K f) [] E (tVar j) σ2 H3 fun y H4 => ∃ acc, H4 D = some (.lst acc) ∧ acc.length < sizeLine ∧ Nx (upd H4 D (.lst (acc ++ [y]))) else Nx H3) :=
  lc_eachT (ys := l.map f) hD hl hz (by rw [List.length_map, hf.len]) hw (fun i x y H Q hx hy s _ q => by
    obtain ⟨t, e1, e2⟩ := hf.get hx
    rw [map_get e1 hy] at q
    exact ⟨x, hv x, ev_prop (e2.same s) (q H (L2.Same.refl H))⟩) hd
theorem lc_propL {K : PySem.W.Frag} {a : Addr} {xs : List V} {l : List T} {f : T → V} {j : Nat} {E : XK} {σ : L2.St} {H1 : Hp} {D : Addr} {Qd : Hp → Prop} (hD : H1 D = none) (hl : SqL K H1 a xs) (hf : FtnL (cF K) H1 l xs) (hz : xs.length < sizeLine)
    (hw : ∀ x : V, wipe ((wipe σ [j]).set j (some x)) [j] = wipe σ [j]) (hv : ∀ x : V, ((wipe σ [j]).set j (some x))[j]? = some (some x)) (hd : ∀ H, L2.Same H1 H → H D = some (.lst (l.map f)) → Qd H) : ∃ W : Nat → Nat → Hp → Prop, (∃ m, W 0 m (upd H1 D (.lst []))) ∧ ∀ i m H, W i m H →
      ((Itl K a).stop i H ∧ Qd H) ∨ ((Itl K a).go i H ∧ ∃ Nx : Hp → Prop, (∀ H', Nx H' → ∃ m', m' < m ∧ W (i + 1) m' H') ∧ ∀ x H', (Itl K a).yld i H x H' → gName j x (wipe σ [j]) H' fun σ2 H2 => wipe σ2 [j] = wipe σ [j] ∧ tYes σ2 H2 fun b H3 =>
        if b = true then tProp (cF K) (spV K f) [] E (tVar j) σ2 H3 fun y H4 => ∃ acc, H4 D = some (.lst acc) ∧ acc.length < sizeLine ∧ Nx (upd H4 D (.lst (acc ++ [y]))) else Nx H3) :=
  lc_eachL (ys := l.map f) hD hl hz (by rw [List.length_map, hf.len]) hw (fun i x y H Q hx hy s _ q => by
    obtain ⟨t, e1, e2⟩ := hf.get hx
    rw [map_get e1 hy] at q
    exact ⟨x, hv x, ev_prop (e2.same s) (q H (L2.Same.refl H))⟩) hd
theorem FtnL.filter {C : Addr} {H : Hp} {p : T → Bool} : ∀ {l : List T} {vs : List V}, FtnL C H l vs → FtnL C H (l.filter p) (((vs.zip (l.map p)).filter (·.2)).map (·.1))
  | [], vs, h => by
    have e : vs = [] := h
    subst e
    exact rfl
  | t :: ts, vs, h => by
    obtain ⟨v, r, rfl, h1, h2⟩ := (show ∃ v r, vs = v :: r ∧ Ftn C H t v ∧ FtnL C H ts r from h)
    rw [List.map_cons, List.zip_cons_cons, List.filter_cons, List.filter_cons]
    cases hp : p t with
    | true => exact ⟨v, _, rfl, h1, FtnL.filter h2⟩
    | false =>
      simp only [Bool.false_eq_true, if_false]
      exact FtnL.filter h2
theorem ite_f {b : Bool} {A B : Prop} (h : b = false) (x : B) : if b = true then A else B := by
  subst h
  exact x
theorem ite_t {b : Bool} {A B : Prop} (h : b = true) (x : A) : if b = true then A else B := by
  subst h
  exact x
theorem joinL_nil : ∀ ys : List (List Nat), TL.joinL [] ys = ys.flatten
  | [] => rfl
  | [x] => by
    show x = x ++ []
    rw [List.append_nil]
  | x :: y :: r => by
    show x ++ ([] ++ TL.joinL [] (y :: r)) = x ++ (y :: r).flatten
    rw [List.nil_append, joinL_nil (y :: r)]
theorem codesL_flat : ∀ l : List T, codesL l = (l.map T.codes).flatten
  | [] => rfl
  | t :: r => by
    show t.codes ++ codesL r = t.codes ++ (r.map T.codes).flatten
    rw [codesL_flat r]
theorem nil_S : ("" : Str) = SX.S [] := by decide +kernel
theorem op_S : ("(" : Str) = SX.S [40] := by decide +kernel
theorem cl_S : (")" : Str) = SX.S [41] := by decide +kernel
theorem o_S : ("o" : Str) = SX.S [111] := by decide +kernel
theorem join_tx (l : List T) : Txt.join "" (l.map tx) = SX.S (codesL l) := by
  have e : l.map tx = (l.map T.codes).map SX.S := by
    rw [List.map_map]
    rfl
  rw [e, nil_S, SX.join_S, joinL_nil, codesL_flat]
theorem tx_bas (l : List T) : (("(" : Str) ++ Txt.join "" (l.map tx)) ++ (")" : Str) = tx (.bas l) := by
  rw [join_tx, op_S, cl_S, SX.S_cat, SX.S_cat]
  rfl
theorem codesL_len (l : List T) : (codesL l).length ≤ 2 * sizeL l := by
  have h := (codes_len (.bas l)).1
  have h2 : (40 :: (codesL l ++ [41])).length + jtsL l = 2 * (1 + sizeL l) := h
  rw [List.length_cons, List.length_append, List.length_singleton] at h2
  omega
theorem lens_tx (l : List T) : ((l.map tx).map (·.length)).sum = (codesL l).length := by
  rw [codesL_flat, List.length_flatten, List.map_map, List.map_map]
  exact congrArg List.sum (List.map_congr_left fun t _ => SX.S_len t.codes)
def PendR (C : Addr) (H : Hp) : List (List T) → List V → Prop
  | [], vs => vs = []
  | p :: r, vs => ∃ a xs ws, vs = .ref a :: ws ∧ H a = some (.tup xs) ∧ FtnL C H p xs ∧ PendR C H r ws
theorem PendR.ext {C : Addr} {H H' : Hp} (e : ExtN H H') : ∀ {st : List (List T)} {vs : List V}, PendR C H st vs → PendR C H' st vs
  | [], _, h => h
  | p :: r, vs, h => by
    obtain ⟨a, xs, ws, rfl, h1, h2, h3⟩ := (show ∃ a xs ws, vs = .ref a :: ws ∧ H a = some (.tup xs) ∧ FtnL C H p xs ∧ PendR C H r ws from h)
    exact ⟨a, xs, ws, rfl, e _ _ h1 (fun ps z => by cases z), h2.ext e, PendR.ext e h3⟩
theorem PendR.len {C : Addr} {H : Hp} : ∀ {st : List (List T)} {vs : List V}, PendR C H st vs → vs.length = st.length
  | [], _, h => by
    rw [show _ = [] from h] <;> rfl
  | p :: r, vs, h => by
    obtain ⟨a, xs, ws, rfl, h1, h2, h3⟩ := (show ∃ a xs ws, vs = .ref a :: ws ∧ H a = some (.tup xs) ∧ FtnL C H p xs ∧ PendR C H r ws from h)
    rw [List.length_cons, List.length_cons, h3.len]
def ExtD (D : Addr) (H H' : Hp) : Prop := ∀ b o, b ≠ D → H b = some o → (∀ ps, o ≠ .tbl ps) → H' b = some o
theorem ExtD.of {D : Addr} {H H' : Hp} (e : ExtN H H') : ExtD D H H' := fun b o _ h n => e b o h n
theorem ExtD.trans {D : Addr} {H H1 H2 : Hp} (a : ExtD D H H1) (b : ExtD D H1 H2) : ExtD D H H2 := fun c o hc h n => b c o hc (a c o hc h n) n
theorem ExtD.put {D : Addr} {H H1 : Hp} {o : HO} (a : ExtD D H H1) : ExtD D H (upd H1 D o) := fun c u hc h n => by rw [upd_ne hc]; exact a c u hc h n
theorem ExtD.refl (D : Addr) (H : Hp) : ExtD D H H := fun _ _ _ h _ => h
section
variable {C D : Addr} {H H' : Hp} {xs : List V}
mutual
theorem ftn_extD (hd : H D = some (.lst xs)) (e : ExtD D H H') : ∀ (t : T) (v : V), Ftn C H t v → Ftn C H' t v
  | .jet, v, h => by
    have h2 : ∃ a dx b n, v = .ref a ∧ H a = some (.ins C dx (flds .jet b n)) ∧ H b = some (.tup []) ∧ H n = some (.tup (nums .jet)) := h
    obtain ⟨a, dx, b, n, ev, h1, h2, h3⟩ := h2
    exact ⟨a, dx, b, n, ev, e _ _ (ne_of h1 hd fun z => by cases z) h1 (fun ps z => by cases z), e _ _ (ne_of h2 hd fun z => by cases z) h2 (fun ps z => by cases z), e _ _ (ne_of h3 hd fun z => by cases z) h3 (fun ps z => by cases z)⟩
  | .bas l, v, h => by
    have h2 : ∃ a dx b n vs, v = .ref a ∧ H a = some (.ins C dx (flds (.bas l) b n)) ∧ H b = some (.tup vs) ∧ H n = some (.tup (nums (.bas l))) ∧ FtnL C H l vs := h
    obtain ⟨a, dx, b, n, vs, ev, h1, h2, h3, h4⟩ := h2
    exact ⟨a, dx, b, n, vs, ev, e _ _ (ne_of h1 hd fun z => by cases z) h1 (fun ps z => by cases z), e _ _ (ne_of h2 hd fun z => by cases z) h2 (fun ps z => by cases z), e _ _ (ne_of h3 hd fun z => by cases z) h3 (fun ps z => by cases z), ftnL_extD hd e l vs h4⟩
theorem ftnL_extD (hd : H D = some (.lst xs)) (e : ExtD D H H') : ∀ (l : List T) (vs : List V), FtnL C H l vs → FtnL C H' l vs
  | [], vs, h => h
  | t :: ts, vs, h => by
    have h2 : ∃ v r, vs = v :: r ∧ Ftn C H t v ∧ FtnL C H ts r := h
    obtain ⟨v, r, ev, h1, h2⟩ := h2
    exact ⟨v, r, ev, ftn_extD hd e t v h1, ftnL_extD hd e ts r h2⟩
end
theorem PendR.extD (hd : H D = some (.lst xs)) (e : ExtD D H H') : ∀ {st : List (List T)} {vs : List V}, PendR C H st vs → PendR C H' st vs
  | [], _, h => h
  | p :: r, vs, h => by
    obtain ⟨a, ys, ws, rfl, h1, h2, h3⟩ := (show ∃ a xs ws, vs = .ref a :: ws ∧ H a = some (.tup xs) ∧ FtnL C H p xs ∧ PendR C H r ws from h)
    exact ⟨a, ys, ws, rfl, e _ _ (ne_of h1 hd fun z => by cases z) h1 (fun ps z => by cases z), ftnL_extD hd e p ys h2, PendR.extD hd e h3⟩
end
theorem Tabs.put {TT : List (Addr × Str)} {H : Hp} {D : Addr} {xs ys : List V} (t : LamX.Tabs TT H) (hd : H D = some (.lst xs)) : LamX.Tabs TT (upd H D (.lst ys)) := fun p hp => by
  obtain ⟨ps, h1, h2, h3⟩ := t p hp
  refine ⟨ps, by rw [upd_ne (ne_of h1 hd fun z => by cases z)]; exact h1, h2, fun pos cv hc => ?_⟩
  obtain ⟨c, e1, e2⟩ := h3 pos cv hc
  exact ⟨c, e1, by rw [upd_ne (ne_of e2 hd fun z => by unfold LamX.CodeO at z; cases z)]; exact e2⟩
theorem Tabs.same {TT : List (Addr × Str)} {H H' : Hp} (t : LamX.Tabs TT H) (s : L2.Same H H') : LamX.Tabs TT H' := LamX.Tabs.ext t s
theorem sq_last {α : Type} (v : α) (r : List α) : ((v :: r).reverse)[(v :: r).reverse.length - 1]? = some v := by
  rw [List.reverse_cons]
  simp
theorem sq_butlast {α : Type} (v : α) (r : List α) : (v :: r).reverse.dropLast = r.reverse := by
  rw [List.reverse_cons, List.dropLast_concat]
theorem ix_last {n : Nat} (h : 0 < n) : ixN n (-1) = some (n - 1) := by
  unfold ixN
  rw [if_neg (by omega), if_pos (by omega)]
  exact congrArg some (by omega)
theorem at_last (v : V) (r : List V) : atI (v :: r).reverse (-1) = some v := by
  unfold atI
  rw [ix_last (by simp)]
  exact sq_last v r
theorem set_last (v w : V) (r : List V) : (v :: r).reverse.set ((v :: r).reverse.length - 1) w = (w :: r).reverse := by
  rw [List.reverse_cons, List.reverse_cons, List.length_append, List.length_singleton]
  simp
theorem tyL {K : PySem.W.Frag} {H : Hp} {D : Addr} {xs : List V} (h : H D = some (.lst xs)) : tyV K "list" (.ref D) H := .inl ⟨rfl, _, SqL.of h⟩
section
variable {C C' D dx' : Addr} {H H' : Hp} {fs : List (Str × V)}
mutual
theorem ftn_extX (hd : H D = some (.ins C' dx' fs)) (hf : fs.length ≠ 3) (e : ExtD D H H') : ∀ (t : T) (v : V), Ftn C H t v → Ftn C H' t v
  | .jet, v, h => by
    have h2 : ∃ a dx b n, v = .ref a ∧ H a = some (.ins C dx (flds .jet b n)) ∧ H b = some (.tup []) ∧ H n = some (.tup (nums .jet)) := h
    obtain ⟨a, dx, b, n, ev, h1, h2, h3⟩ := h2
    exact ⟨a, dx, b, n, ev, e _ _ (ne_of h1 hd fun z => by cases z; exact hf rfl) h1 (fun ps z => by cases z), e _ _ (ne_of h2 hd fun z => by cases z) h2 (fun ps z => by cases z), e _ _ (ne_of h3 hd fun z => by cases z) h3 (fun ps z => by cases z)⟩
  | .bas l, v, h => by
    have h2 : ∃ a dx b n vs, v = .ref a ∧ H a = some (.ins C dx (flds (.bas l) b n)) ∧ H b = some (.tup vs) ∧ H n = some (.tup (nums (.bas l))) ∧ FtnL C H l vs := h
    obtain ⟨a, dx, b, n, vs, ev, h1, h2, h3, h4⟩ := h2
    exact ⟨a, dx, b, n, vs, ev, e _ _ (ne_of h1 hd fun z => by cases z; exact hf rfl) h1 (fun ps z => by cases z), e _ _ (ne_of h2 hd fun z => by cases z) h2 (fun ps z => by cases z), e _ _ (ne_of h3 hd fun z => by cases z) h3 (fun ps z => by cases z), ftnL_extX hd hf e l vs h4⟩
theorem ftnL_extX (hd : H D = some (.ins C' dx' fs)) (hf : fs.length ≠ 3) (e : ExtD D H H') : ∀ (l : List T) (vs : List V), FtnL C H l vs → FtnL C H' l vs
  | [], vs, h => h
  | t :: ts, vs, h => by
    have h2 : ∃ v r, vs = v :: r ∧ Ftn C H t v ∧ FtnL C H ts r := h
    obtain ⟨v, r, ev, h1, h2⟩ := h2
    exact ⟨v, r, ev, ftn_extX hd hf e t v h1, ftnL_extX hd hf e ts r h2⟩
end
end
theorem Tabs.putI {TT : List (Addr × Str)} {H : Hp} {D C C' dx dx' : Addr} {fs gs : List (Str × V)} (t : LamX.Tabs TT H) (hd : H D = some (.ins C dx fs)) : LamX.Tabs TT (upd H D (.ins C' dx' gs)) := fun p hp => by
  obtain ⟨ps, h1, h2, h3⟩ := t p hp
  refine ⟨ps, by rw [upd_ne (ne_of h1 hd fun z => by cases z)]; exact h1, h2, fun pos cv hc => ?_⟩
  obtain ⟨c, e1, e2⟩ := h3 pos cv hc
  exact ⟨c, e1, by rw [upd_ne (ne_of e2 hd fun z => by unfold LamX.CodeO at z; cases z)]; exact e2⟩
theorem kids_size (t : T) : sizeL t.kids ≤ t.size := by
  cases t with
  | jet => exact Nat.zero_le _
  | bas l => show sizeL l ≤ 1 + sizeL l; omega
theorem Ftn.ne {C : Addr} {H : Hp} {t : T} {v : V} (h : Ftn C H t v) : v ≠ .non := by
  obtain ⟨a, _, _, _, _, rfl, _⟩ := ftn_iff.mp h
  exact fun z => by cases z
end JW
namespace JW
open PySem PySem.Spec PyProof.Rows L2 He
def gAd (K : PySem.W.Frag) (p : Str × Str) : Addr := match PySem.W.recIn K (ma K (ga K p.1) p.2) "property" with
  | some (.ref g :: _) => g
  | _ => 0
structure PrD where
  at_ : Str × Str
  name : Str
  qual : Str
  params : Arguments
  body : List Stmt
  scope : Scope
def fnWa (K : PySem.W.Frag) (a : Addr) : FnW := match K.lookup a with
  | some ⟨_, _, .func fd, _⟩ => some (fd.name, fd.qualname, fd.params, fd.body, fd.scope, fd.globals, fd.closure, fd.builtins)
  | _ => none
def PrD.val (d : PrD) : FnW := some (d.name, d.qual, d.params, .stmts d.body, d.scope, mainGlobals, [], builtinsNs)
def PrD.okP (K : PySem.W.Frag) (d : PrD) : Bool := eqO (PySem.W.findIn K (.ref (ga K d.at_.1)) d.at_.2) (some (some (.ref (ma K (ga K d.at_.1) d.at_.2)))) &&
  (eqO (PySem.W.specialIn K (.ref (ma K (ga K d.at_.1) d.at_.2)) "__get__") (some (some (.builtin "property.__get__"))) && (decide (PySem.W.takesIn K (.ref (ma K (ga K d.at_.1) d.at_.2)) = some true) &&
  (match PySem.W.recIn K (ma K (ga K d.at_.1) d.at_.2) "property" with
  | some (.ref _ :: _) => true
  | _ => false)))
def PrD.okF (K : PySem.W.Frag) (d : PrD) : Bool := PySem.W.keepIn K (.ref (gAd K d.at_)) && (match K.lookup (gAd K d.at_) with
  | some ⟨_, _, .func fd, _⟩ => PySem.W.codeIn K fd.code d.qual && (dflB K fd.defaults [] && kwdB K fd.kwdefaults [])
  | _ => false)
def PrD.ok (K : PySem.W.Frag) (d : PrD) : Bool := d.okP K && d.okF K
theorem PrD.propOf {K : PySem.W.Frag} {d : PrD} (h : d.okP K = true) : PropOf K (ga K d.at_.1) d.at_.2 (ma K (ga K d.at_.1) d.at_.2) (gAd K d.at_) := by
  obtain ⟨h1, h2⟩ := ba h
  obtain ⟨h3, h4⟩ := ba h2
  obtain ⟨h5, h6⟩ := ba h4
  refine ⟨eqO_ok h1, eqO_ok h3, of_decide_eq_true h5, ?_⟩
  unfold gAd
  generalize PySem.W.recIn K (ma K (ga K d.at_.1) d.at_.2) "property" = r at h6 ⊢
  cases r with
  | none => cases h6
  | some l =>
    cases l with
    | nil => cases h6
    | cons v rest =>
      cases v with
      | ref g => exact ⟨rest, rfl⟩
      | _ => cases h6
theorem PrD.funD {K : PySem.W.Frag} {d : PrD} (e : fnWa K (gAd K d.at_) = d.val) (c : d.okF K = true) : ∃ fd, FunD K d.name d.qual d.params d.body d.scope [] [] (gAd K d.at_) fd := by
  obtain ⟨kp, c2⟩ := ba c
  unfold fnWa at e
  cases q : K.lookup (gAd K d.at_) with
  | none =>
    rw [q] at c2
    cases c2
  | some o =>
    obtain ⟨oc, od, dt, osl⟩ := o
    rw [q] at c2 e
    cases dt with
    | func fd =>
      obtain ⟨n1, n2, n3, n4, n5, n6, n7, n8, n9, n10, n11, n12, n13, n14, n15⟩ := fd
      have e2 : (some (n1, n2, n3, n4, n5, n6, n7, n15) : FnW) = some (d.name, d.qual, d.params, .stmts d.body, d.scope, mainGlobals, [], builtinsNs) := e
      simp only [Option.some.injEq, Prod.mk.injEq] at e2
      obtain ⟨h1, h2, h3, h4, h5, h6, h7, h8⟩ := e2
      subst h1 h2 h3 h4 h5 h6 h7 h8
      have c3 : (PySem.W.codeIn K n13 d.qual && (dflB K n8 [] && kwdB K n9 [])) = true := c2
      obtain ⟨k1, k2⟩ := ba c3
      obtain ⟨k3, k4⟩ := ba k2
      exact ⟨_, ⟨oc, od, n8, n9, n10, n11, n12, n13, n14, osl, rfl, q, k1, dflB_ok k3, kwdB_ok k4⟩, kp⟩
    | _ => cases c2
def clsX (K : PySem.W.Frag) (x : Str) : Bool := eqO (PySem.W.findIn K (.ref (ga K x)) "__class__") (some (some (.builtin "object.__class__"))) &&
  (eqO (PySem.W.specialIn K (.builtin "object.__class__") "__get__") (some (some (.builtin "getset_descriptor.__get__"))) && (decide (PySem.W.takesIn K (.builtin "object.__class__") = some true) &&
  (decide (PySem.W.mroIn K (ga K x) (.type "object") = some true) && (eqO (PySem.W.findIn K (.ref (ga K x)) "__ne__") (some (some (.builtin "object.__ne__"))) && PySem.W.selfFirst K (ga K x)))))
theorem clsF_of {K : PySem.W.Frag} {mg : Str → Option Value} (g : mg "Fountain" = some (.ref (cF K))) (c : Cls K (cF K)) (nw : NoAttr K (cF K) "written") (nb : NoAttr K (cF K) "branches") (nn : NoAttr K (cF K) "numbers") (h : clsX K "Fountain" = true) : ClsF K mg := by
  obtain ⟨h1, h2⟩ := ba h
  obtain ⟨h3, h4⟩ := ba h2
  obtain ⟨h5, h6⟩ := ba h4
  obtain ⟨h7, h8⟩ := ba h6
  obtain ⟨h9, h10⟩ := ba h8
  exact ⟨g, c, nw, nb, nn, eqO_ok h1, eqO_ok h3, of_decide_eq_true h5, of_decide_eq_true h7, eqO_ok h9, of_decide_eq_true h7, h10⟩
structure SaysJ (fa : List Fa) (fn : List DefD) (tf : List Defn) (ex : PySem.W.Frag → Bool) (pr : List PrD) (w : World) (h : Heap) (K : PySem.W.Frag) : Prop where
  x : SaysX fa fn [] tf ex w h K
  p : pr.map (fun d => fnWa K (gAd K d.at_)) = pr.map PrD.val
  ok : (pr.all fun d => d.ok K) = true
section
variable {fa : List Fa} {fn : List DefD} {tf : List Defn} {ex : PySem.W.Frag → Bool} {pr : List PrD} {w : World} {h : Heap} {K : PySem.W.Frag}
theorem SaysJ.d (c : SaysJ fa fn tf ex pr w h K) : SaysD fa fn K := congrArg (fun z : AlT => z.1) c.x.t
end
end JW
namespace JW
open PySem PySem.Spec PyProof.Rows L2
def feedD (a b c : Int) : List (Key × V) := [(.inr "digits", .int a), (.inr "seed", .int b), (.inr "turn", .int c)]
theorem feed_digits {a b c : Int} : valV (feedD a b c) (.inr "digits") = some (.int a) := by kernel_rfl
theorem feed_seed {a b c : Int} : valV (feedD a b c) (.inr "seed") = some (.int b) := by kernel_rfl
theorem feed_turn {a b c : Int} : valV (feedD a b c) (.inr "turn") = some (.int c) := by kernel_rfl
theorem feed_put_digits {a b c x : Int} : putK (feedD a b c) (.inr "digits") (.int x) = feedD x b c := by kernel_rfl
theorem feed_put_seed {a b c x : Int} : putK (feedD a b c) (.inr "seed") (.int x) = feedD a x c := by kernel_rfl
theorem feed_put_turn {a b c x : Int} : putK (feedD a b c) (.inr "turn") (.int x) = feedD a b x := by kernel_rfl
theorem feed_made {a b c : Int} : mergeK [] (feedD a b c) = feedD a b c := by kernel_rfl
theorem feed_len {a b c : Int} : (feedD a b c).length < sizeLine := by show 3 < sizeLine; decide
def FeedAt (H : Hp) (d : Addr) : Prop := ∃ a b c : Int, H d = some (.dK (feedD a b c))
theorem FeedAt.same {H H' : Hp} {d : Addr} (h : FeedAt H d) (s : L2.Same H H') : FeedAt H' d := by
  obtain ⟨a, b, c, e⟩ := h
  exact ⟨a, b, c, s _ _ e⟩
theorem FeedAt.off {H : Hp} {d p : Addr} {o : HO} (h : FeedAt H d) (n : d ≠ p) : FeedAt (upd H p o) d := by
  obtain ⟨a, b, c, e⟩ := h
  exact ⟨a, b, c, by rw [upd_ne n]; exact e⟩
theorem FeedAt.ne {H : Hp} {d p : Addr} (h : FeedAt H d) (hp : H p = none) : p ≠ d := by
  obtain ⟨a, b, c, e⟩ := h
  exact (ne_of_none e hp).symm
def SamD (d : Addr) (H H' : Hp) : Prop := ∀ b o, b ≠ d → H b = some o → H' b = some o
theorem SamD.refl (d : Addr) (H : Hp) : SamD d H H := fun _ _ _ h => h
theorem SamD.trans {d : Addr} {H H1 H2 : Hp} (a : SamD d H H1) (b : SamD d H1 H2) : SamD d H H2 := fun c o h1 h => b c o h1 (a c o h1 h)
theorem SamD.put {d : Addr} {H H1 : Hp} {o : HO} (a : SamD d H H1) : SamD d H (upd H1 d o) := fun c u h1 h => by rw [upd_ne h1]; exact a c u h1 h
theorem SamD.new {d p : Addr} {H H1 : Hp} {o : HO} (a : SamD d H H1) (hp : H1 p = none) : SamD d H (upd H1 p o) := fun c u h1 h => by rw [upd_ne (ne_of_none (a c u h1 h) hp)]; exact a c u h1 h
theorem SamD.mine {d p : Addr} {H H1 : Hp} {o : HO} (a : SamD d H H1) (hp : H p = none) : SamD d H (upd H1 p o) := fun c u h1 h => by rw [upd_ne (ne_of_none h hp)]; exact a c u h1 h
theorem SamD.of {d : Addr} {H H1 : Hp} (a : L2.Same H H1) : SamD d H H1 := fun c o _ h => a c o h
theorem SamD.same {d : Addr} {H H1 H2 : Hp} (a : SamD d H H1) (b : L2.Same H1 H2) : SamD d H H2 := fun c o h1 h => b c o (a c o h1 h)
theorem Tabs.samD {TT : List (Addr × Str)} {H H' : Hp} {d : Addr} (t : LamX.Tabs TT H) (f : FeedAt H d) (s : SamD d H H') : LamX.Tabs TT H' := fun p hp => by
  obtain ⟨a, b, c0, e⟩ := f
  obtain ⟨ps, h1, h2, h3⟩ := t p hp
  refine ⟨ps, s _ _ (ne_of h1 e fun z => by cases z) h1, h2, fun pos cv hc => ?_⟩
  obtain ⟨c, e1, e2⟩ := h3 pos cv hc
  exact ⟨c, e1, s _ _ (ne_of e2 e fun z => by unfold LamX.CodeO at z; cases z) e2⟩
section
variable {C d : Addr} {H H' : Hp}
end
end JW
namespace PySem
open Sem (wp)
open Builtin Builtin.Str
open AutoSeq1 (wpAny_loadPart')
section
variable {prog : Program} {w : World} {A : Around} {E : Value → Shared → Prop} {s : Shared}
theorem jw_next_tup {it t : Addr} {i : Nat} {items} {x : Value} {Q : Value → Shared → Prop} (hit : s.heap.IsTupleIter it t i) (ht : s.heap.IsTuple t items) (hx : items[i]? = some x)
    (hQ : ∀ h', h'.IsTupleIter it t (i + 1) → Heap.SameBut it s.heap h' → Q x { s with heap := h' }) : wpAny (model prog w) A (Builtin.SmallTypes.nextOf (.ref it)) Q E s := by
  obtain ⟨o, ho, hc, hd⟩ := id hit
  obtain ⟨ol, hol, _, nl, hdl⟩ := ht
  unfold Builtin.SmallTypes.nextOf
  refine wpAny_bind (wpAny_callSpecial?_slot (name := Str.ofString "__next__") hit.typeIs F.slot_tuple_iterator_next
    (wpAny_call_entry F.slot_tuple_iterator_next hit.typeIs F.entry_tuple_iterator_next ?_ (F.args_tuple_iterator_next_1 _)))
  show wpAny _ _ (field (.ref it) 0 >>= _) _ _ s
  refine wpAny_bind (wpAny_field ho hd (x := .ref t) rfl ?_)
  show wpAny _ _ (if (Value.ref t == Value.none) = true then _ else _) _ _ s
  rw [if_neg (show ¬ ((Value.ref t == Value.none) = true) from Bool.false_ne_true)]
  show wpAny _ _ (field (.ref it) 1 >>= _) _ _ s
  refine wpAny_bind (wpAny_field ho hd (x := .int i 0) rfl ?_)
  show wpAny _ _ (seqItems? (.ref t) >>= _) _ _ s
  refine wpAny_bind (wpAny_seqItems hol hdl ?_)
  simp only [Int.toNat_natCast, hx]
  refine wpAny_bind (wpAny_setField ho hd (by simp) (wpAny_pure ⟨x, rfl, wpAny_pure (hQ _ ?_ (Heap.SameBut.update ..))⟩))
  exact ⟨_, Heap.get?_update_self _ ho (Obj.isFreed_of_fields (Obj.data_mapFields hd _)), (Obj.cls_mapFields ..).trans hc, by
    rw [Obj.data_mapFields hd]; simp [rawInt]⟩
theorem jw_next_tup_end {it t : Addr} {i : Nat} {items} {Q : Value → Shared → Prop} (hh : A.handled = none) (hit : s.heap.IsTupleIter it t i) (ht : s.heap.IsTuple t items) (hx : items[i]? = none)
    (hE : ∀ h' e, Heap.ExtBut it s.heap h' → (∃ o, h'.get? e = some o ∧ o.cls = .type "StopIteration") → E (.ref e) { s with heap := h' }) : wpAny (model prog w) A (Builtin.SmallTypes.nextOf (.ref it)) Q E s := by
  obtain ⟨o, ho, hc, hd⟩ := id hit
  obtain ⟨ol, hol, _, nl, hdl⟩ := ht
  unfold Builtin.SmallTypes.nextOf
  refine wpAny_bind (wpAny_callSpecial?_slot (name := Str.ofString "__next__") hit.typeIs F.slot_tuple_iterator_next
    (wpAny_call_entry F.slot_tuple_iterator_next hit.typeIs F.entry_tuple_iterator_next ?_ (F.args_tuple_iterator_next_1 _)))
  show wpAny _ _ (field (.ref it) 0 >>= _) _ _ s
  refine wpAny_bind (wpAny_field ho hd (x := .ref t) rfl ?_)
  show wpAny _ _ (if (Value.ref t == Value.none) = true then _ else _) _ _ s
  rw [if_neg (show ¬ ((Value.ref t == Value.none) = true) from Bool.false_ne_true)]
  show wpAny _ _ (field (.ref it) 1 >>= _) _ _ s
  refine wpAny_bind (wpAny_field ho hd (x := .int i 0) rfl ?_)
  show wpAny _ _ (seqItems? (.ref t) >>= _) _ _ s
  refine wpAny_bind (wpAny_seqItems hol hdl ?_)
  simp only [Int.toNat_natCast, hx]
  refine wpAny_bind (wpAny_rule (wpAny_bind (wpAny_setField ho hd (by simp) ?_)))
  show wpAny _ _ (newExc (.type "StopIteration") [] >>= _) _ _ _
  refine wpAny_bind ?_
  simp only [newExc, newTuple]
  refine wpAny_bind (wpAny_newObj_type ?_ (by size_fits))
  refine wpAny_bind (m := firstArgMember _ _) (wpAny_of_eq (a := Value.none) (by first | rfl | (simp only [firstArgMember]; rfl)) ?_)
  refine wpAny_newObj_type ?_ (by size_fits)
  simp only [raiseNew]
  refine wpAny_bind (wpAny_handled ?_)
  first | rw [show A.in1.handled = none from hh] | rw [hh]
  refine wpAny_bind (wpAny_pure (wpAny_throw ?_))
  exact hE _ _ (((Heap.SameBut.update ..).extBut.push _).push _) ⟨_, Heap.get?_push_size _ rfl, rfl⟩
end
theorem jw_draws_tup {prog : Program} {w : World} {A : Around} (hh : A.handled = none) (it l : Addr) (hne : l ≠ it) (items : Array Value) :
    Draws prog w A it [it, l] items.size (fun i v => items[i]? = some v) (fun i h => h.IsTupleIter it l i ∧ h.IsTuple l items) where
  live := fun _ _ st => let ⟨o, ho, _⟩ := st.1; ⟨o, ho⟩
  frame := fun _ _ _ st hk => by
    obtain ⟨⟨o, ho, r⟩, o2, ho2, r2⟩ := st
    exact ⟨⟨o, hk it (by simp) o ho, r⟩, o2, hk l (by simp) o2 ho2, r2⟩
  item := fun i s Q E hi st hQ => by
    refine jw_next_tup st.1 st.2 (x := items[i]) (by simp [hi]) fun h' hit' hs' => ?_
    exact hQ _ h' s.toks (by simp [hi]) ⟨hit', st.2.extBut hs'.extBut hne⟩ hs'
  done := fun s Q E st hE => jw_next_tup_end hh st.1 st.2 (by simp) hE
set_option maxHeartbeats 4000000 in
theorem jw_enum_newT (l : Addr) (items : Array Value) (n : Nat) (dct : Option Addr) (sl : Array (Option Value)) :
    Meets (Builtin.«enumerate.__new__» ⟨[.type "enumerate", .ref l], []⟩) (fun _ R s => s.heap.get? l = some { cls := .type "tuple", dict := dct, data := .seq items n, slots := sl } ∧
      R (.ok (.ret (.ref (s.heap.push { cls := .type "tuple_iterator", data := .fields #[.ref l, .int 0 0] }).objs.size)))
        { s with heap := (s.heap.push { cls := .type "tuple_iterator", data := .fields #[.ref l, .int 0 0] }).push { cls := .type "enumerate", data := .fields #[.none, .bool false, .ref s.heap.objs.size, rawInt 0, .none, .none] } }) :=
  .of_wp fun prog w A R s h => by
    obtain ⟨hp, g, d, tk, os⟩ := s; obtain ⟨hl, h⟩ := h
    have hsub := sub_enumerate
    have hL : Heap.IsTuple (Shared.heap ⟨hp, g, d, tk, os⟩) l items := ⟨_, hl, rfl, n, rfl⟩
    wp_walk using wpAny_loadPart' hl
    refine wpAny_stack_any fun st => wpAny_pure ?_
    split
    · rename_i c _ _ _ _ _
      cases (c == Value.type "enumerate")
      · wp_walk using wpAny_loadPart' hl, wpAny_pyIter_tuple hL
        exact ⟨_, rfl, h⟩
      · wp_walk using wpAny_loadPart' hl, wpAny_pyIter_tuple hL
        exact ⟨_, rfl, h⟩
    · wp_walk using wpAny_loadPart' hl, wpAny_pyIter_tuple hL
      exact ⟨_, rfl, h⟩
section
variable {prog : Program} {w : World} {A : Around} {E : Value → Shared → Prop} {s : Shared}
theorem jw_call_enumT {l : Addr} {items : Array Value} {Q : Value → Shared → Prop} (hL : s.heap.IsTuple l items)
    (h : ∀ h', IsEnum h' (s.heap.objs.size + 1) s.heap.objs.size 0 .none → h'.IsTupleIter s.heap.objs.size l 0 → h'.objs.size = s.heap.objs.size + 2 →
      (∀ b o, s.heap.get? b = some o → h'.get? b = some o) → Q (.ref (s.heap.objs.size + 1)) { s with heap := h' }) :
    wpAny (model prog w) A (call (.type "enumerate") [.ref l]) Q E s := by
  obtain ⟨⟨c, dct, dt, sl⟩, hl, hc, n, hd⟩ := hL
  replace hc : c = .type "tuple" := hc
  replace hd : dt = .seq items n := hd
  subst hc hd
  refine callType_new F.called_enumerate (by decide) (F.typeCall_enumerate_1 _) (F.newCall_enumerate_1 _) (fun obj => F.args_object_init_2 obj _) F.entry_enumerate_new
    (jw_enum_newT l items n dct sl) ⟨hl, ?_⟩
  have hz : (s.heap.push { cls := .type "tuple_iterator", data := .fields #[.ref l, .int 0 0] }).objs.size = s.heap.objs.size + 1 := Heap.size_push ..
  show _ ∧ _
  rw [hz]
  have he : IsEnum ((s.heap.push { cls := .type "tuple_iterator", data := .fields #[.ref l, .int 0 0] }).push
      { cls := .type "enumerate", data := .fields #[.none, .bool false, .ref s.heap.objs.size, rawInt 0, .none, .none] }) (s.heap.objs.size + 1) s.heap.objs.size 0 .none := by
    have := Heap.get?_push_size (s.heap.push { cls := .type "tuple_iterator", data := .fields #[.ref l, .int 0 0] })
      (o := { cls := .type "enumerate", data := .fields #[.none, .bool false, .ref s.heap.objs.size, rawInt 0, .none, .none] }) rfl
    rw [hz] at this; exact this
  refine ⟨⟨_, he, rfl⟩, h _ he ⟨_, Heap.get?_push_of_some _ (Heap.get?_push_size _ rfl), rfl, rfl⟩ (by rw [Heap.size_push, hz]) fun b o x => Heap.get?_push_of_some _ (Heap.get?_push_of_some _ x)⟩
end
end PySem
namespace JW
open PySem PySem.Spec PyProof.Rows L2
def Itet (K : PySem.W.Frag) (a : Addr) : It :=
  ⟨fun i H => ∃ (xs : List V) (x : V), SqT K H a xs ∧ xs[i]? = some x, fun i H v H' => ∃ T x, v = .ref T ∧ H T = none ∧ H' = upd H T (.tup [.int (i : Nat), x]) ∧ ∀ xs, SqT K H a xs → xs[i]? = some x, fun i H => ∃ xs : List V, SqT K H a xs ∧ xs.length = i⟩
theorem turn_enumT {P : Program} {w : World} {K : PySem.W.Frag} {elts : List Expr} {kk : Nat} {tpos : Pos} (a e it : Addr) (hai : a ≠ it) (hae : a ≠ e) :
    Turn P w K (.Tuple elts kk tpos) (Itet K a) [e, it] e (fun i h => (∃ old, IsEnum h e it ((i : Nat) : Int) old) ∧ h.IsTupleIter it a i ∧ e ≠ it) where
  mem := by simp
  obj := fun i h st b hb => by
    obtain ⟨⟨old, he⟩, ⟨o, ho, hc, hd⟩, _⟩ := st
    have e' : b = e ∨ b = it := by simpa using hb
    rcases e' with z | z
    · rw [z]; exact ⟨_, he, fun v q => nomatch q⟩
    · rw [z]; exact ⟨o, ho, fun v q => by rw [hd] at q; cases q⟩
  keep := fun i h h' st k => by
    obtain ⟨⟨old, he⟩, ⟨o, ho, r⟩, hne⟩ := st
    exact ⟨⟨old, k e (by simp) _ he⟩, ⟨o, k it (by simp) o ho, r⟩, hne⟩
  item := by
    intro X hP hw hK hc i pins s σ H E I hf st hg
    subst hP hw hK
    obtain ⟨⟨old, he⟩, hit, hne⟩ := st
    obtain ⟨xs, x, hq, hx⟩ := hg
    obtain ⟨its, rv, p, hz⟩ := I.tuple hq
    obtain ⟨u, hu, ru⟩ := rv.get hx
    have hel : e < s.heap.objs.size := Heap.lt_size he
    have hil : it < s.heap.objs.size := by obtain ⟨_, q, _⟩ := hit; exact Heap.lt_size q
    have hlt : i < its.toArray.size := by
      have := (List.getElem?_eq_some_iff.mp hu).1
      simpa using this
    refine wpAny_pyNext_enum_itemD (jw_draws_tup (A := X.A.in1) (I.ok.hd hc) it a hai its.toArray) he ⟨hit, show s.heap.IsTuple a its.toArray from p⟩ hlt hne (by simp [hne, Ne.symm hae]) fun y h' tk hy ho hit' hT hsz hk => ?_
    obtain rfl : y = u := by
      have e1 : its.toArray[i]? = some u := by simpa using hu
      rw [e1] at hy
      exact (Option.some.inj hy).symm
    refine ⟨_, rfl, wpAny_letOwnedTupleGo_enum (s := { s with heap := h', toks := tk + 1 }) ho fun h'' he' sb => ?_⟩
    have hT2 : h''.get? s.heap.objs.size = some { cls := .type "tuple", data := .seq #[.int i tk, y] } := (sb.2 _ (Nat.ne_of_gt hel)).trans hT
    have new : ObjOk X.prog X.w (upd H s.heap.objs.size (.tup [.int (i : Nat), x])) h'' s.heap.objs.size (.tup [.int (i : Nat), x]) :=
      ⟨by show 2 ≤ sizeLine; decide, [.int i tk, y], .cons ⟨_, rfl⟩ (.cons ru .nil), ⟨_, hT2, rfl, _, rfl⟩⟩
    have I1 : Inv X pins σ (upd H s.heap.objs.size (.tup [.int (i : Nat), x])) { s with heap := h'', toks := tk + 1 } :=
      I.turnedNew (ch := [e, it]) (fun b ob hb q => (sb.2 b (fun z => hb (by simp [z]))).trans (hk b ob (fun z => hb (by simp [z])) (fun z => hb (by simp [z])) q)) hf (Nat.le_refl _) new
    refine ⟨.ref s.heap.objs.size, _, I1, rfl, ⟨_, x, rfl, I.hok.fresh (Nat.le_refl _), rfl, fun ys hy2 => by rw [I.tuple_inj hy2 hq]; exact hx⟩, ⟨⟨y, ?_⟩, ?_, hne⟩, fun b hb => ?_⟩
    · have e1 : ((i + 1 : Nat) : Int) = (i : Int) + 1 := by omega
      rw [e1]; exact he'
    · obtain ⟨⟨o, q, r⟩, _⟩ := hit'
      exact ⟨o, (sb.2 it (Ne.symm hne)).trans q, r⟩
    · have hb' : b < s.heap.objs.size := by
        have e' : b = e ∨ b = it := by simpa using hb
        rcases e' with z | z
        · rw [z]; exact hel
        · rw [z]; exact hil
      rw [upd_ne (Nat.ne_of_lt hb')]
      exact (hf b hb).1
  done := by
    intro X hP hw hK hc i pins s σ H E I hf st hg
    subst hP hw hK
    obtain ⟨⟨old, he⟩, hit, hne⟩ := st
    obtain ⟨xs, hq, hx⟩ := hg
    obtain ⟨its, rv, p, hz⟩ := I.tuple hq
    have hl : i = its.toArray.size := by
      rw [← hx, rv.length, List.size_toArray]
    subst hl
    obtain ⟨f0, f1, f2, f3, f4, f5⟩ := hf it (by simp)
    exact wpAny_pyNext_enum_endD (jw_draws_tup (A := X.A.in1) (I.ok.hd hc) it a hai its.toArray) he ⟨hit, show s.heap.IsTuple a its.toArray from p⟩ fun h' eb => ⟨rfl, I.turned (t' := s.toks) (fun b o hb q => eb b o hb q) f0 f1 f3 f4 f5⟩
  self := fun A i s Q E st h => let ⟨⟨_, he⟩, _⟩ := st; wpAny_pyIter_enum he h
def iEnumT (K : PySem.W.Frag) (ta : TA) : TI := fun σ H R => ta σ H fun vs H1 => ∃ a xs, vs = [.ref a] ∧ SqT K H1 a xs ∧ R (Itet K a) H1
theorem pi_enumT {X : Cx} {e : Expr} {ta : TA} {p pos tpos : Pos} {elts : List Expr} {kk : Nat} (hg : Gl X "enumerate") (hm : X.mg "enumerate" = none) (ha : PA X [e] ta) (hs : starEach [e] X.env = [(false, eval e X.env)] := by rfl) :
    PI X (.Tuple elts kk tpos) (.Call (.Name "enumerate" p) [e] [] pos) (iEnumT X.K ta) := by
  refine ⟨fun pins s σ H R I h => ?_⟩
  refine Call_ (ld_blt I hg hm boot_enumerate (PyProof.Rows.callWith_type1 (thn (ha.run pos pins s σ H _ I h) fun us s1 ⟨vs, H1, I1, r1, q1⟩ => ?_) hs rfl))
  obtain ⟨a, xs, ex, hq, q⟩ := q1
  subst ex
  cases r1 with
  | cons r rr =>
    cases rr
    cases r
    obtain ⟨its, rv, p', hz⟩ := I1.tuple hq
    have hlt : a < s1.heap.objs.size := by
      obtain ⟨o, q2, _⟩ := p'
      exact Heap.lt_size q2
    refine jw_call_enumT (show s1.heap.IsTuple a its.toArray from p') fun h' he hit hsz hk => wpAny_pyIter_enum he ?_
    have I2 : Inv X pins σ H1 { s1 with heap := h' } := I1.kept (t' := s1.toks) hk
    refine ⟨s1.heap.objs.size + 1, [s1.heap.objs.size + 1, s1.heap.objs.size], _, _, H1, rfl, I2, turn_enumT a (s1.heap.objs.size + 1) s1.heap.objs.size (Nat.ne_of_lt hlt) (Nat.ne_of_lt (Nat.lt_succ_of_lt hlt)), ⟨⟨.none, he⟩, hit, Nat.succ_ne_self _⟩, fun b hb => ?_, q⟩
    have e' : b = s1.heap.objs.size + 1 ∨ b = s1.heap.objs.size := by simpa using hb
    have hle : s1.heap.objs.size ≤ b := by
      rcases e' with z | z
      · rw [z]; exact Nat.le_add_right _ _
      · rw [z]; exact Nat.le_refl _
    exact I1.fpOk hle (I1.hok.fresh hle)
theorem for_enumT {K : PySem.W.Frag} {a : Addr} {xs : List V} {g : TG} {tb : TS} {D : Ends} {σ : L2.St} {H : Hp} (Pv : Nat → L2.St → Hp → Prop) (h0 : Pv 0 σ H) (hl : ∀ i σ H, i ≤ xs.length → Pv i σ H → SqT K H a xs)
    (hs : ∀ i x σ H T, xs[i]? = some x → Pv i σ H → H T = none → g (.ref T) σ (upd H T (.tup [.int (i : Nat), x])) fun σ2 H2 => tb { D with nx := Pv (i + 1), ct := Pv (i + 1), bk := D.nx } σ2 H2) (hd : ∀ σ H, Pv xs.length σ H → D.nx σ H) :
    ∃ W : Nat → Nat → L2.St → Hp → Prop, (∃ m, W 0 m σ H) ∧ ∀ i m σ H, W i m σ H →
      ((Itet K a).stop i H ∧ D.nx σ H) ∨ ((Itet K a).go i H ∧ ∃ N : L2.St → Hp → Prop, (∀ σ' H', N σ' H' → ∃ m', m' < m ∧ W (i + 1) m' σ' H') ∧ ∀ v H', (Itet K a).yld i H v H' → g v σ H' fun σ2 H2 => tb { D with nx := N, ct := N, bk := D.nx } σ2 H2) := by
  refine ⟨fun i m σ H => m = xs.length - i ∧ i ≤ xs.length ∧ Pv i σ H, ⟨xs.length, rfl, Nat.zero_le _, h0⟩, ?_⟩
  rintro i m σ H ⟨rfl, hi, p⟩
  by_cases hlt : i < xs.length
  · refine .inr ⟨⟨xs, xs[i], hl i σ H hi p, List.getElem?_eq_getElem hlt⟩, Pv (i + 1), fun σ' H' p' => ⟨xs.length - (i + 1), by omega, rfl, hlt, p'⟩, fun v H' hy => ?_⟩
    obtain ⟨T, x, rfl, hT, rfl, hx⟩ := hy
    exact hs i x σ H T (hx xs (hl i σ H hi p)) p hT
  · have e : i = xs.length := by omega
    subst e
    exact .inl ⟨⟨xs, hl _ σ H hi p, rfl⟩, hd σ H p⟩
end JW
namespace JW
open PySem PySem.Spec PyProof.Rows L2 LamX
theorem DefAt.none {P : Program} {w : World} {K : PySem.W.Frag} {mg : Str → Option Value} {base : Heap} {CX : CXT} {x qual : Str} {st : Stmt} {ps : List Str} {k : Nat} {sp : Sp} (D : DefAt K mg x qual st [] ps) (h : ∀ vs H Q E, ¬ sp vs H Q E) : CallD P w K mg base CX k x ps [] sp := by
  obtain ⟨f, fd, h1, F, b⟩ := D.ex
  exact ⟨f, fd, [], h1, F.kp, b, .nil, ⟨fun vs H Q E z => absurd z (h _ _ _ _), fun A outer s H args us vs Q E hr e0 hb r z => absurd z (h _ _ _ _)⟩⟩
theorem callD_rec {P : Program} {w : World} {K : PySem.W.Frag} {mg : Str → Option Value} {base : Heap} {CX : CXT} {x qual : Str} {st : Stmt} {ps : List Str} {L : Nat} {sp : Nat → Sp} (D : DefAt K mg x qual st [] ps) (h0 : ∀ vs H Q E, ¬ sp 0 vs H Q E)
    (step : ∀ n, CallD P w K mg base CX (L + n) x ps [] (sp n) → CallD P w K mg base CX (L + n + 1) x ps [] (sp (n + 1))) : ∀ n, CallD P w K mg base CX (L + n) x ps [] (sp n)
  | 0 => D.none h0
  | n + 1 => step n (callD_rec D h0 step n)
theorem lc_ftnT {K : PySem.W.Frag} {TT : List (Addr × Str)} {a : Addr} {xs : List V} {l : List T} {g : T → T} {j : Nat} {te : TE} {σ : L2.St} {H1 : Hp} {D : Addr} {Qd : Hp → Prop} (hD : H1 D = none) (hl : SqT K H1 a xs) (hf : FtnL (cF K) H1 l xs) (hz : xs.length < sizeLine) (hT : Tabs TT H1)
    (hw : ∀ x : V, wipe ((wipe σ [j]).set j (some x)) [j] = wipe σ [j]) (hs : ∀ (x : V) (t : T) (H : Hp) (Q : VK), t ∈ l → Ftn (cF K) H t x → ExtN H1 H → Tabs TT H → (∀ y H', ExtN H H' → Tabs TT H' → Ftn (cF K) H' (g t) y → Q y H') → te ((wipe σ [j]).set j (some x)) H Q)
    (hd : ∀ H ys, ExtN H1 H → Tabs TT H → H D = some (.lst ys) → FtnL (cF K) H (l.map g) ys → Qd H) : ∃ W : Nat → Nat → Hp → Prop, (∃ m, W 0 m (upd H1 D (.lst []))) ∧ ∀ i m H, W i m H →
      ((Itt K a).stop i H ∧ Qd H) ∨ ((Itt K a).go i H ∧ ∃ Nx : Hp → Prop, (∀ H', Nx H' → ∃ m', m' < m ∧ W (i + 1) m' H') ∧ ∀ x H', (Itt K a).yld i H x H' → gName j x (wipe σ [j]) H' fun σ2 H2 => wipe σ2 [j] = wipe σ [j] ∧ tYes σ2 H2 fun b H3 =>
        if b = true then te σ2 H3 fun y H4 => ∃ acc, H4 D = some (.lst acc) ∧ acc.length < sizeLine ∧ Nx (upd H4 D (.lst (acc ++ [y]))) else Nx H3) := by
  have slq : ∀ H, ExtN H1 H → SqT K H a xs := fun H s => by
    rcases hl with (h | ⟨o, h⟩) | h
    · exact .inl (.inl (s _ _ h fun ps z => by cases z))
    · exact .inl (.inr ⟨o, s _ _ h fun ps z => by cases z⟩)
    · exact .inr h
  have hlen := hf.len
  refine lc_tup (fun i H => ExtN H1 H ∧ Tabs TT H ∧ ∃ ys, H D = some (.lst ys) ∧ FtnL (cF K) H ((l.take i).map g) ys) ⟨.of (Same.new (Same.refl H1) hD), Tabs.same hT (Same.new (Same.refl H1) hD), [], upd_same, by rw [List.take_zero]; rfl⟩ (fun i H _ p => slq H p.1) (fun i x H hx p => ?_) fun H p => ?_
  · obtain ⟨hE, hT2, ys, hy, hfy⟩ := p
    obtain ⟨t, e1, e2⟩ := hf.get hx
    have hi : i < l.length := (List.getElem?_eq_some_iff.mp e1).1
    refine ⟨hw x, ?_⟩
    show te _ H _
    refine hs x t H _ (List.mem_of_getElem? e1) (e2.ext hE) hE hT2 fun y H' hE' hT' hy' => ⟨ys, hE' _ _ hy (fun ps z => by cases z), ?_, ?_, ?_, ys ++ [y], upd_same, ?_⟩
    · rw [hfy.len, List.length_map, List.length_take]
      omega
    · exact fun c o ec n => by rw [upd_ne (ne_of_none ec hD)]; exact hE' _ _ (hE _ _ ec n) n
    · exact Tabs.put hT' (hE' _ _ hy (fun ps z => by cases z))
    · have hDy := hE' _ _ hy (fun ps z => by cases z)
      rw [List.take_succ, e1, Option.toList_some, List.map_append, List.map_singleton]
      exact ftnL_extD hDy (ExtD.put (ExtD.refl D H')) _ _ ((hfy.ext hE').app (FtnL.one hy'))
  · obtain ⟨hE, hT2, ys, hy, hfy⟩ := p
    rw [hlen, List.take_length] at hfy
    exact hd H ys hE hT2 hy hfy
structure DefAtK (K : PySem.W.Frag) (mg : Str → Option Value) (x qual : Str) (st : Stmt) (kws : List (Str × V)) (ps : List Str) : Prop where
  ex : ∃ f fd, mg x = some (.ref f) ∧ FunD K x qual (defArgs st) (defBody st) (defScope st) [] kws f fd ∧ ∃ ds, Vals (kws.map (·.2)) ds ∧ Binds K fd ps ds
theorem DefAtK.ok {P : Program} {w : World} {K : PySem.W.Frag} {mg : Str → Option Value} {base : Heap} {CX : CXT} {x qual : Str} {st : Stmt} {N ps : List Str} {kws : List (Str × V)} {k : Nat} {sp : Sp} (D : DefAtK K mg x qual st kws ps) (S : FnScope N ps (defScope st)) (len : ∀ vs H Q E, sp vs H Q E → vs.length = ps.length)
    (hbody : ∀ (f : Addr) (cdv : Value) (A : Around) (outer : List Env) (s : Shared) (H : Hp) (vs : List V) (Q : VK) (E : XK), Room k (A.deeper (envOfC qual (defScope st) s.heap.objs.size f cdv)) → sp vs H Q E →
      ∃ t, PSs (cxOf CX P w K mg base N qual (defScope st) f cdv A outer s H E).nox (defBody st) t ∧ t { nx := fun _ H' => Q .non H', rt := Q } (start N vs) H) : CallD P w K mg base CX (k + 1) x ps (kws.map (·.2)) sp := by
  obtain ⟨f, fd, h1, F, ds, r, b⟩ := D.ex
  exact ⟨f, fd, ds, h1, F.kp, b, r, JW.okF F S len fun cdv A outer s H vs Q E hr h => hbody f cdv A outer s H vs Q E hr h⟩
end JW
namespace JW
open PySem PySem.Spec PyProof.Rows L2
mutual
def PT (H : Hp) : T → V → Prop
  | .jet, v => v = .str (tx .jet)
  | .bas l, v => ∃ a vs, v = .ref a ∧ H a = some (.tup vs) ∧ PTL H l vs
def PTL (H : Hp) : List T → List V → Prop
  | [], vs => vs = []
  | t :: ts, vs => ∃ v r, vs = v :: r ∧ PT H t v ∧ PTL H ts r
end
section
variable {H H' : Hp}
def TupS (H H' : Hp) : Prop := ∀ a xs, H a = some (.tup xs) → H' a = some (.tup xs)
theorem TupS.of (s : L2.Same H H') : TupS H H' := fun a _ e => s a _ e
theorem TupS.ext (e : LamX.ExtN H H') : TupS H H' := fun a _ h => e a _ h fun ps z => by cases z
theorem TupS.refl (H : Hp) : TupS H H := fun _ _ h => h
theorem TupS.trans {H1 : Hp} (a : TupS H H1) (b : TupS H1 H') : TupS H H' := fun c xs h => b c xs (a c xs h)
mutual
theorem pt_tup (s : TupS H H') : ∀ (t : T) (v : V), PT H t v → PT H' t v
  | .jet, v, h => h
  | .bas l, v, h => by
    obtain ⟨a, vs, ev, e, h2⟩ := (show ∃ a vs, v = .ref a ∧ H a = some (.tup vs) ∧ PTL H l vs from h)
    exact ⟨a, vs, ev, s _ _ e, ptl_tup s l vs h2⟩
theorem ptl_tup (s : TupS H H') : ∀ (l : List T) (vs : List V), PTL H l vs → PTL H' l vs
  | [], vs, h => h
  | t :: ts, vs, h => by
    obtain ⟨v, r, ev, h1, h2⟩ := (show ∃ v r, vs = v :: r ∧ PT H t v ∧ PTL H ts r from h)
    exact ⟨v, r, ev, pt_tup s t v h1, ptl_tup s ts r h2⟩
end
theorem PT.keep {t : T} {v : V} (h : PT H t v) (s : TupS H H') : PT H' t v := pt_tup s t v h
theorem PTL.keep {l : List T} {vs : List V} (h : PTL H l vs) (s : TupS H H') : PTL H' l vs := ptl_tup s l vs h
theorem PTL.len : ∀ {l : List T} {vs : List V}, PTL H l vs → vs.length = l.length
  | [], vs, h => by
    have e : vs = [] := h
    rw [e] <;> rfl
  | t :: ts, vs, h => by
    obtain ⟨v, r, rfl, _, h2⟩ := (show ∃ v r, vs = v :: r ∧ PT H t v ∧ PTL H ts r from h)
    rw [List.length_cons, List.length_cons, PTL.len h2]
theorem PTL.get : ∀ {l : List T} {vs : List V} {i : Nat} {v : V}, PTL H l vs → vs[i]? = some v → ∃ t, l[i]? = some t ∧ PT H t v
  | [], vs, i, v, h, e => by
    have e2 : vs = [] := h
    rw [e2] at e
    simp at e
  | t :: ts, vs, i, v, h, e => by
    obtain ⟨u, r, rfl, h1, h2⟩ := (show ∃ v r, vs = v :: r ∧ PT H t v ∧ PTL H ts r from h)
    cases i with
    | zero =>
      have e3 : u = v := by simpa using e
      exact ⟨t, rfl, e3 ▸ h1⟩
    | succ i =>
      obtain ⟨t', e1, e2⟩ := PTL.get h2 (i := i) (v := v) (by simpa using e)
      exact ⟨t', by simpa using e1, e2⟩
theorem PTL.app : ∀ {l m : List T} {vs ws : List V}, PTL H l vs → PTL H m ws → PTL H (l ++ m) (vs ++ ws)
  | [], m, vs, ws, h, h' => by
    have e : vs = [] := h
    rw [e]
    exact h'
  | t :: ts, m, vs, ws, h, h' => by
    obtain ⟨u, r, rfl, h1, h2⟩ := (show ∃ v r, vs = v :: r ∧ PT H t v ∧ PTL H ts r from h)
    exact ⟨u, r ++ ws, rfl, h1, PTL.app h2 h'⟩
theorem PTL.one {t : T} {v : V} (h : PT H t v) : PTL H [t] [v] := ⟨v, [], rfl, h, rfl⟩
end
section
variable {K : PySem.W.Frag} {H : Hp}
end
theorem PTL.zip {H : Hp} : ∀ {l : List T} {vs : List V}, PTL H l vs → ∀ p ∈ (l.map tx).zip vs, ∃ t, p.1 = tx t ∧ PT H t p.2
  | [], vs, _, p, hp => by
    rw [List.map_nil, List.zip_nil_left] at hp
    cases hp
  | t :: ts, vs, h, p, hp => by
    obtain ⟨u, r, rfl, h1, h2⟩ := (show ∃ v r, vs = v :: r ∧ PT H t v ∧ PTL H ts r from h)
    rw [List.map_cons, List.zip_cons_cons] at hp
    rcases List.mem_cons.mp hp with e | e
    · exact ⟨t, by rw [e], by rw [e]; exact h1⟩
    · exact PTL.zip h2 p e
theorem PTL.push {H : Hp} {l : List T} {vs : List V} {t : T} {v : V} {P : Addr} (h : PTL H l vs) (hv : PT H t v) (hP : H P = some (.lst vs)) : PTL (upd H P (.lst (vs ++ [v]))) (l ++ [t]) (vs ++ [v]) := by
  have kp : TupS H (upd H P (.lst (vs ++ [v]))) := fun c zs ec => by rw [upd_ne (ne_of ec hP fun z => by cases z)]; exact ec
  exact PTL.keep (PTL.app h (PTL.one hv)) kp
theorem sIx_none (n : Nat) : HT.sIx n n none = n := rfl
end JW
namespace JW
open PySem PySem.Spec PyProof.Rows L2 LamX
def ExtS (d g : Addr) (H H' : Hp) : Prop := ∀ b o, b ≠ d → b ≠ g → H b = some o → (∀ ps, o ≠ .tbl ps) → H' b = some o
section
variable {d g : Addr} {H H1 H' : Hp}
theorem ExtS.refl (d g : Addr) (H : Hp) : ExtS d g H H := fun _ _ _ _ h _ => h
theorem ExtS.trans (a : ExtS d g H H1) (b : ExtS d g H1 H') : ExtS d g H H' := fun c o h1 h2 h n => b c o h1 h2 (a c o h1 h2 h n) n
theorem ExtS.ofN (s : ExtN H H') : ExtS d g H H' := fun b o _ _ h n => s b o h n
theorem SackAt.extN (h : SackAt H d g) (e : ExtN H H') : SackAt H' d g := by
  obtain ⟨ns, a, b, c, n, e1, e2⟩ := h
  exact ⟨ns, a, b, c, n, e _ _ e1 (fun ps z => by cases z), e _ _ e2 (fun ps z => by cases z)⟩
variable {C : Addr}
end
theorem ExtS.mine {d g : Addr} {H0 H H' : Hp} (a : L2.Same H0 H) (hd : H0 d = none) (hg : H0 g = none) (b : ExtS d g H H') : LamX.ExtN H0 H' := fun c o h n => b c o (ne_of_none h hd) (ne_of_none h hg) (a c o h) n
theorem seqN {K : PySem.W.Frag} {H H' : Hp} {a : Addr} {xs : List V} (h : SqL K H a xs) (e : LamX.ExtN H H') : SqL K H' a xs := by
  rcases h with (h | ⟨o, h⟩) | h
  · exact .inl (.inl (e _ _ h fun ps z => by cases z))
  · exact .inl (.inr ⟨o, e _ _ h fun ps z => by cases z⟩)
  · exact .inr h
end JW
namespace JW
open PySem PySem.Spec PyProof.Rows L2
section
variable {P : Program} {w : World} {K : PySem.W.Frag} {mg : Str → Option Value} {base : Heap} {C : Addr}
theorem DefAt.okX {x qual : Str} {st : Stmt} {N ps : List Str} {k : Nat} {sp : Sp} {dvs : List V} (D : DefAt K mg x qual st dvs ps) (S : FnScope N ps (defScope st)) (len : ∀ vs H Q E, sp vs H Q E → vs.length = ps.length)
    (hbody : ∀ (f : Addr) (cdv : Value) (A : Around) (outer : List Env) (s : Shared) (H : Hp) (vs : List V) (Q : VK) (E : XK), Room k (A.deeper (envOfC qual (defScope st) s.heap.objs.size f cdv)) → sp vs H Q E →
      ∃ t, PSs (cxOf (L2.CX P w) P w K mg base N qual (defScope st) f cdv A outer s H E) (defBody st) t ∧ t { nx := fun _ H' => Q .non H', rt := Q } (start N vs) H) : CallD P w K mg base (L2.CX P w) (k + 1) x ps [] sp := by
  obtain ⟨f, fd, h1, F, b⟩ := D.ex
  exact ⟨f, fd, [], h1, F.kp, b, .nil, F.ok S len fun cdv A outer s H vs Q E hr h => hbody f cdv A outer s H vs Q E hr h⟩
theorem MethAt.okX {m qual : Str} {st : Stmt} {N ps : List Str} {k : Nat} {sp : Sp} (D : MethAt K C m qual st ps) (S : FnScope N ps (defScope st)) (len : ∀ vs H Q E, sp vs H Q E → vs.length = ps.length)
    (hbody : ∀ (f : Addr) (cdv : Value) (A : Around) (outer : List Env) (s : Shared) (H : Hp) (vs : List V) (Q : VK) (E : XK), Room k (A.deeper (envOfC qual (defScope st) s.heap.objs.size f cdv)) → sp vs H Q E →
      ∃ t, PSs (cxOf (L2.CX P w) P w K mg base N qual (defScope st) f cdv A outer s H E) (defBody st) t ∧ t { nx := fun _ H' => Q .non H', rt := Q } (start N vs) H) : MethD P w K mg base (L2.CX P w) (k + 1) C m ps [] sp := by
  obtain ⟨f, fd, h1, F, b⟩ := D.ex
  exact ⟨f, fd, [], h1, b, .nil, F.ok S len fun cdv A outer s H vs Q E hr h => hbody f cdv A outer s H vs Q E hr h⟩
theorem InitAt.okX {x qual : Str} {st : Stmt} {N ps : List Str} {k : Nat} {sp : Sp} {dvs : List V} (D : InitAt K mg x C qual st dvs ps) (j : Nat) (hj : j ≤ dvs.length) (S : FnScope N ps (defScope st)) (len : ∀ vs H Q E, sp vs H Q E → vs.length = ps.length)
    (hbody : ∀ (f : Addr) (cdv : Value) (A : Around) (outer : List Env) (s : Shared) (H : Hp) (vs : List V) (Q : VK) (E : XK), Room k (A.deeper (envOfC qual (defScope st) s.heap.objs.size f cdv)) → sp vs H Q E →
      ∃ t, PSs (cxOf (L2.CX P w) P w K mg base N qual (defScope st) f cdv A outer s H E) (defBody st) t ∧ t { nx := fun _ H' => Q .non H', rt := Q } (start N vs) H) : MakeD P w K mg base (L2.CX P w) (k + 1) x C ps (dvs.drop j) sp := by
  obtain ⟨f, fd, h1, h2, F, b⟩ := D.ex
  obtain ⟨ds, r, hb⟩ := b j hj
  exact ⟨f, fd, ds, h1, h2, hb, r, F.ok S len fun cdv A outer s H vs Q E hr h => hbody f cdv A outer s H vs Q E hr h⟩
end
theorem passE {X : Cx} {E : XK} {E₁ : Value → Shared → Prop} (hs : X.stack = X.env :: X.outer) (hf : X.env.frame = some X.env.locals) (hex : X.ex = [])
    (hx : X.xe = fun e s' => wpAny (model X.prog X.w) X.A (leaving X.env e) (fun _ s'' => L2.CX X.prog X.w X.outer X.H_0 X.s_0 E e s'') E₁ s') : Passes (L2.CX X.prog X.w) X E :=
  passes_call (takes_of hs hf hex hx) fun _ _ _ _ h => h
section
variable {X : Cx} {CX : CXT} {k : Nat} {f C : Addr} {fd : FuncData} {ps : List Str} {sp : Sp} {dvs : List V} {ds : List Value} {E : L2.St → XK} {x m : Str} {p pos apos : Pos} {e o a b : Expr} {es : List Expr} {ta tb : TE} {t : TA}
theorem run_fnS2 {pins : List (Addr × Obj)} {σ : L2.St} {H : Hp} {s : Shared} {Q : VK} {us : List Value} {vs : List V} (F : FnOk X.prog X.w X.K X.mg X.base CX k f fd ps sp) (hr : Room k X.A) (hb : Binds X.K fd ps ds) (hd : Vals dvs ds) (hx : PassesAt CX X σ (E σ))
    (I : Inv X pins σ H s) (r : Vals vs us) (h : sp (vs ++ dvs) H Q (E σ)) : wpAny (model X.prog X.w) X.A (call (.ref f) us) (EP X pins σ Q) X.xe s := by
  have r2 : Vals (vs ++ dvs) (us ++ ds) := r.append hd
  have hl : (us ++ ds).length = ps.length := by rw [← r2.length]; exact F.len _ _ _ _ h
  refine wpAny_call (codeAny_mono (F.run X.A X.stack s H ⟨us, []⟩ (us ++ ds) (vs ++ dvs) Q (E σ) hr I.env0 (hb s us I.kIn hl) r2 h) fun r s' hq => ?_)
  cases r with
  | error e => exact hx pins H s e s' I hq
  | ok fl =>
    cases fl with
    | ret u => exact I.after hq
    | next => exact False.elim hq
    | brk => exact False.elim hq
    | cont => exact False.elim hq
def tCallS2 (sp : Sp) (dvs : List V) (E : L2.St → XK) (t : TA) : TE := fun σ H Q => t σ H fun vs H1 => sp (vs ++ dvs) H1 Q (E σ)
theorem pe_callDS (c : CallD X.prog X.w X.K X.mg X.base CX k x ps dvs sp) (hr : Room k X.A) (hg : Gl X x) (hx : ∀ σ, PassesAt CX X σ (E σ)) (ha : PA X (e :: es) t) (hdb : (x == ("__debug__" : Str)) = false := by decide)
    (he : starEach (e :: es) X.env = (false, eval e X.env) :: starEach es X.env := by rfl) (hpl : (backTo pos (starEach es X.env)).any (·.1) = false := by rfl) : PE X (.Call (.Name x p) (e :: es) [] pos) (tCallS2 sp dvs E t) := by
  obtain ⟨f, fd, ds, h1, h2, h3, h4, F⟩ := c.ex
  refine ⟨fun pins s σ H Q I h => ?_⟩
  refine wpAny_Call_Name_kw (ld_glob I hg h1 ?_ hdb)
  refine PySem.W.callWith_K (h₀ := X.base) I.ok.mod.kin h2 (thn (ha.run pos pins s σ H _ I h) fun us s1 ⟨vs, H1, I1, r, q⟩ => ⟨I1.kIn, ?_⟩) he hpl
  exact run_fnS2 F hr h3 h4 (hx σ) I1 r q
end
section
variable {X : Cx} {o e : Expr} {es : List Expr} {ta : TA} {x : Str} {p p' p1 p2 pos : Pos} {D : Addr} {mc : Value}
structure InitBy (K : PySem.W.Frag) (D : Addr) : Prop where
  ex : ∃ mc, ClX.CRead K D mc ∧ PySem.W.findCls K (.ref D) mc "__init__" = some (.val (.builtin "ValueError.__init__"))
theorem pe_cinit {pl : Sem Bool} (hg : Gl X x) (hm : X.mg x = some (.ref D)) (B : InitBy X.K D) (ha : PA X (e :: es) ta) (hdb : (x == ("__debug__" : Str)) = false := by decide)
    (hc : eval (.Call (.Attribute (.Name x p1) "__init__" p2) (e :: es) [] pos) X.env = (do
      let ov ← eval (.Name x p1) X.env
      standAt p2.atName
      let (f, first) ← holding [ov] (getMethod ov "__init__" pl)
      callWith pos f first (backTo pos (starEach (e :: es) X.env)) (backToKw pos (keywordEach [] X.env))) := by rfl)
    (he : starEach (e :: es) X.env = (false, eval e X.env) :: starEach es X.env := by rfl) (hpl : (backTo pos (starEach es X.env)).any (·.1) = false := by rfl) :
    PE X (.Call (.Attribute (.Name x p1) "__init__" p2) (e :: es) [] pos) (tVeI X.K ta) := by
  obtain ⟨mc, r, k⟩ := B.ex
  refine ⟨fun pins s σ H Q I h => ?_⟩
  refine PySem.W.methodCall_KW (ld_glob I hg hm ?_ hdb) hc
  refine PySem.W.method_cls I.kIn r.ga (PySem.W.cls_value I.kIn r.rd k (by decide +kernel) ?_)
  show wpAny _ _ (callWith pos (Value.builtin "ValueError.__init__") [] (backTo pos (starEach (e :: es) X.env)) []) _ _ _
  refine PyProof.Rows.callWith_method1 (thn (ha.run pos pins _ σ H _ (I.tok _) h) fun us s1 ⟨vs, H1, I1, r1, a, C, ws, ev, hl, T, ea, q⟩ => ?_) he hpl
  subst ev
  cases r1 with
  | @cons _ u0 _ ur ra rw' =>
    obtain rfl : u0 = Value.ref a := ra
    have hlen : ur.length ≤ sizeLine := by
      rw [← Paired.length rw', sizeLine_eq]
      omega
    exact oinit_ok T I1 ea hlen fun s' J => ⟨.non, H1, J, rfl, q⟩
end
structure ErrC (K : PySem.W.Frag) (C : Addr) : Prop where
  o : OexC K C
  xf : XfC K C
  ex : ExcC K C
structure ErrAt (K : PySem.W.Frag) (mg : Str → Option Value) (x : Str) (C : Addr) (qual : Str) (st : Stmt) (ps : List Str) : Prop where
  g : mg x = some (.ref C)
  c : ErrC K C
  ex : ∃ f fd, PySem.W.findIn K (.ref C) "__init__" = some (some (.ref f)) ∧ PySem.W.typeIn K (.ref f) = some (.type "function") ∧ FunD K "__init__" qual (defArgs st) (defBody st) (defScope st) [] [] f fd ∧ Binds K fd ps []
structure ErrD (P : Program) (w : World) (K : PySem.W.Frag) (mg : Str → Option Value) (base : Heap) (k : Nat) (x : Str) (C : Addr) (ps : List Str) (sp : Sp) : Prop where
  g : mg x = some (.ref C)
  c : ErrC K C
  ex : ∃ f fd, PySem.W.findIn K (.ref C) "__init__" = some (some (.ref f)) ∧ PySem.W.typeIn K (.ref f) = some (.type "function") ∧ Binds K fd ps [] ∧ FnOk P w K mg base CX0 k f fd ps sp
def spErr (K : PySem.W.Frag) (C : Addr) (f : Str) : Sp := fun vs H Q _ => ∃ a v, vs = [.ref a, v] ∧ H a = some (exo a C none) ∧ ∀ d, H d = none → d ≠ a → Q .non (upd (upd H d (exd d [(f, v)])) a (exo a C (some d)))
section
variable {P : Program} {w : World} {K : PySem.W.Frag} {mg : Str → Option Value} {base : Heap} {C : Addr} {x : Str}
theorem ErrAt.ok {qual : Str} {st : Stmt} {N ps : List Str} {k : Nat} {sp : Sp} (D : ErrAt K mg x C qual st ps) (S : FnScope N ps (defScope st)) (len : ∀ vs H Q E, sp vs H Q E → vs.length = ps.length)
    (hbody : ∀ (f : Addr) (cdv : Value) (A : Around) (outer : List Env) (s : Shared) (H : Hp) (vs : List V) (Q : VK) (E : XK), Room k (A.deeper (envOfC qual (defScope st) s.heap.objs.size f cdv)) → sp vs H Q E →
      ∃ t, PSs (cxOf CX0 P w K mg base N qual (defScope st) f cdv A outer s H E).nox (defBody st) t ∧ t { nx := fun _ H' => Q .non H', rt := Q } (start N vs) H) : ErrD P w K mg base (k + 1) x C ps sp := by
  obtain ⟨f, fd, h1, h2, F, b⟩ := D.ex
  exact ⟨D.g, D.c, f, fd, h1, h2, b, okF F S len fun cdv A outer s H vs Q E hr h => hbody f cdv A outer s H vs Q E hr h⟩
end
def tRaiseE (C : Addr) (f : Str) (ta : TE) : L2.St → Hp → XK → Prop := fun σ H Q => ta σ H fun v H1 => ∀ d H', L2.Same H1 H' → H1 d = none → H' d = some (.xd [(f, v)]) → Q (.ref C) (some d) H'
section
variable {X : Cx} {e : Expr} {te : TE} {p pos : Pos} {x f : Str} {C : Addr} {k : Nat} {ps : List Str}
theorem pmk_err (D : ErrD X.prog X.w X.K X.mg X.base k x C ps (spErr X.K C f)) (hr : Room (k + 1) X.A) (hg : Gl X x) (he : PE X e te) (hdb : (x == ("__debug__" : Str)) = false := by decide)
    (hst : starEach [e] X.env = (false, eval e X.env) :: starEach [] X.env := by rfl) (hpl : (backTo pos (starEach [] X.env)).any (·.1) = false := by rfl) : PMk X (.Call (.Name x p) [e] [] pos) (tRaiseE C f te) := by
  obtain ⟨fI, fd, h1, h2, hb, F⟩ := D.ex
  intro pins s σ H Q I h
  refine pmk_oex (X := X) (C := C) (CX := CX0) (sp := spErr X.K C f) D.c.o h1 h2 F hr hb .nil pass0 hg D.g (pa_cons (pe_via he) pa_nil hst) hdb hst hpl pins s σ H Q I ?_
  refine ⟨_, h, fun v H1 r => ⟨by show 1 ≤ 1000; decide, fun a na => ⟨a, v, rfl, upd_same, fun d nd da => ⟨rfl, d, [(f, v)], upd_same, ?_, ?_, r d _ ?_ ?_ upd_same⟩⟩⟩⟩
  · rw [upd_ne da, upd_same]
  · rw [upd_ne da] at nd
    exact nd
  · intro b o e
    have nb : b ≠ a := ne_of_none e na
    have nd2 : b ≠ d := by
      rw [upd_ne da] at nd
      exact ne_of_none e nd
    rw [upd_ne nd2, del_ne nb, upd_ne nb, upd_ne nd2, upd_ne nb]
    exact e
  · rw [upd_ne da] at nd
    exact nd
end
def rIsX (K : PySem.W.Frag) (cls : Value) (d : Option Addr) (a : Addr) : List V → Hp → VK → Prop := fun xs H Q => ∃ (C : Addr) (c : V) (cv : Value) (b : Bool), cls = .ref C ∧ ExcC K C ∧ xs = [.ref a, c] ∧ (∀ u, RelV c u → u = cv) ∧ PySem.W.kitOne K (.ref C) cv = some b ∧ (∀ dd, d = some dd → ∃ fs, H dd = some (.xd fs)) ∧ Q (.bl b) H
theorem call_isX {X : Cx} {a : Addr} {oe : Obj} {cls : Value} {d : Option Addr} {pn : List (Addr × Obj)} (hz : Zc cls d oe) (hf : ∃ vs, oe.data = .fields vs) : CallR (X.suite a ((a, oe) :: pn)) (.builtin "isinstance") (rIsX X.K cls d a) := by
  intro pins s σ H xs us Q I r h
  obtain ⟨D, c, cv, b, rfl, C, rfl, hcv, e, hd, q⟩ := h
  cases r with
  | cons rx rr =>
    cases rr with
    | cons rt rr =>
      cases rr
      cases rx
      have ec := hcv _ rt
      subst ec
      obtain ⟨hget, _⟩ := I.pin (a, oe) (List.mem_append.mpr (.inl List.mem_cons_self))
      obtain ⟨vs, hv⟩ := hf
      obtain ⟨od, J⟩ : ∃ od, PySem.W.InstAt s.heap a oe D od := by
        cases d with
        | none =>
          refine ⟨none, hget, hz.1, by unfold PySem.W.notCls; rw [hv] <;> rfl, ?_⟩
          rw [hz.2]
          trivial
        | some dd =>
          obtain ⟨fs, ed⟩ := hd dd rfl
          have hx : ObjOk X.prog X.w H s.heap dd (.xd fs) := I.hok dd _ ed
          obtain ⟨mA, hns, hr⟩ := hx
          obtain ⟨od, ho, hl⟩ := lookIn_ns hns
          exact ⟨some od, hget, hz.1, by unfold PySem.W.notCls; rw [hv] <;> rfl, by rw [hz.2]; exact ho⟩
      have hcl : (PySem.W.clsIn X.K D).isSome = true := by
        obtain ⟨cd, h1, _⟩ := PySem.W.any_some C.hd
        rw [h1] <;> rfl
      exact PySem.W.kia_one (PySem.W.kitx_exc hcl C.hg C.hk C.hs C.ha C.hn C.ht C.hm) I.kIn J e (fun z => nomatch z) fun tk => ⟨.bl b, H, I.kept (t' := tk) fun _ _ z => z, rfl, q⟩
end JW
namespace JW
open PySem PySem.Spec PyProof.Rows L2
structure BaseAt (mg : Str → Option Value) (x : Str) (C : Addr) : Prop where
  g : mg x = some (.ref C)
structure CmAt (K : PySem.W.Frag) (C : Addr) (m qual : Str) (st : Stmt) (ps : List Str) : Prop where
  ex : ∃ mc p f fd, ClX.CRead K C mc ∧ ClX.CMet K C mc m p f ∧ FunD K m qual (defArgs st) (defBody st) (defScope st) [] [] f fd ∧ Binds K fd ps []
structure CmD (P : Program) (w : World) (K : PySem.W.Frag) (mg : Str → Option Value) (base : Heap) (CX : CXT) (k : Nat) (C : Addr) (m : Str) (ps : List Str) (sp : Sp) : Prop where
  ex : ∃ mc p f fd, ClX.CRead K C mc ∧ ClX.CMet K C mc m p f ∧ Binds K fd ps [] ∧ FnOk P w K mg base CX k f fd ps sp
section
variable {P : Program} {w : World} {K : PySem.W.Frag} {mg : Str → Option Value} {base : Heap} {C : Addr}
theorem CmAt.okX {m qual : Str} {st : Stmt} {N ps : List Str} {k : Nat} {sp : Sp} (D : CmAt K C m qual st ps) (S : FnScope N ps (defScope st)) (len : ∀ vs H Q E, sp vs H Q E → vs.length = ps.length)
    (hbody : ∀ (f : Addr) (cdv : Value) (A : Around) (outer : List Env) (s : Shared) (H : Hp) (vs : List V) (Q : VK) (E : XK), Room k (A.deeper (envOfC qual (defScope st) s.heap.objs.size f cdv)) → sp vs H Q E →
      ∃ t, PSs (cxOf (L2.CX P w) P w K mg base N qual (defScope st) f cdv A outer s H E) (defBody st) t ∧ t { nx := fun _ H' => Q .non H', rt := Q } (start N vs) H) : CmD P w K mg base (L2.CX P w) (k + 1) C m ps sp := by
  obtain ⟨mc, p, f, fd, h1, h2, F, b⟩ := D.ex
  exact ⟨mc, p, f, fd, h1, h2, b, F.ok S len fun cdv A outer s H vs Q E hr h => hbody f cdv A outer s H vs Q E hr h⟩
theorem CmAt.ok {m qual : Str} {st : Stmt} {N ps : List Str} {k : Nat} {sp : Sp} {CX : CXT} (D : CmAt K C m qual st ps) (S : FnScope N ps (defScope st)) (len : ∀ vs H Q E, sp vs H Q E → vs.length = ps.length)
    (hbody : ∀ (f : Addr) (cdv : Value) (A : Around) (outer : List Env) (s : Shared) (H : Hp) (vs : List V) (Q : VK) (E : XK), Room k (A.deeper (envOfC qual (defScope st) s.heap.objs.size f cdv)) → sp vs H Q E →
      ∃ t, PSs (cxOf CX P w K mg base N qual (defScope st) f cdv A outer s H E).nox (defBody st) t ∧ t { nx := fun _ H' => Q .non H', rt := Q } (start N vs) H) : CmD P w K mg base CX (k + 1) C m ps sp := by
  obtain ⟨mc, p, f, fd, h1, h2, F, b⟩ := D.ex
  exact ⟨mc, p, f, fd, h1, h2, b, okF F S len fun cdv A outer s H vs Q E hr h => hbody f cdv A outer s H vs Q E hr h⟩
end
section
variable {X : Cx} {CX : CXT} {k : Nat} {C : Addr} {ps : List Str} {sp : Sp} {E : L2.St → XK} {x m : Str} {p1 apos pos : Pos} {e : Expr} {es : List Expr} {t : TA}
def tCmS (C : Addr) (sp : Sp) (E : L2.St → XK) (t : TA) : TE := fun σ H Q => t σ H fun vs H2 => sp (.ref C :: vs) H2 Q (E σ)
theorem pe_cmethS {pl : Sem Bool} (hg : Gl X x) (hm : X.mg x = some (.ref C)) (M : CmD X.prog X.w X.K X.mg X.base CX k C m ps sp) (hr : Room k X.A) (hx : ∀ σ, PassesAt CX X σ (E σ)) (ha : PA X (e :: es) t) (hdb : (x == ("__debug__" : Str)) = false := by decide)
    (hst : starEach (e :: es) X.env = (false, eval e X.env) :: starEach es X.env := by rfl) (hpl : (backTo pos (starEach es X.env)).any (·.1) = false := by rfl)
    (ht : eval (.Call (.Attribute (.Name x p1) m apos) (e :: es) [] pos) X.env = (do
      let ov ← eval (.Name x p1) X.env
      standAt apos.atName
      let (f, first) ← holding [ov] (getMethod ov m pl)
      callWith pos f first (backTo pos (starEach (e :: es) X.env)) (backToKw pos (keywordEach [] X.env))) := by rfl) : PE X (.Call (.Attribute (.Name x p1) m apos) (e :: es) [] pos) (tCmS C sp E t) := by
  obtain ⟨mc, p, f, fd, r, c, hb, F⟩ := M.ex
  refine ⟨fun pins s σ H Q I h => ?_⟩
  refine PySem.W.methodCall_KW (pl := pl) (ld_glob I hg hm ?_ hdb) ht
  refine ClX.getmethcm_ok I r c fun s2 I2 => ?_
  refine ClX.callwith_cm I2 (ClX.base_none I (Nat.le_refl _)) c.fi (thn (ha.run pos _ s2 σ H _ I2 h) fun us s3 ⟨vs, H2, I3, rv, q2⟩ => ⟨⟨ClX.pin_at I3, I3.kIn⟩, ?_⟩) hst hpl
  have r2 : Vals (.ref C :: vs) (.ref C :: us) := .cons rfl rv
  have hl : (Value.ref C :: us).length = ps.length := by rw [← r2.length]; exact F.len _ _ _ _ q2
  have b := hb s3 (.ref C :: us) I3.kIn (by rw [List.append_nil]; exact hl)
  rw [List.append_nil] at b
  have z : wpAny (model X.prog X.w) X.A (call (.ref s.heap.objs.size) us) (EP X ((s.heap.objs.size, PySem.W.methodObj (.ref f) (.ref C)) :: pins) σ Q) X.xe s3 :=
    wpAny_call (PySem.W.method_call (ClX.pin_at I3) (codeAny_mono (F.run X.A X.stack s3 H2 ⟨.ref C :: us, []⟩ (.ref C :: us) (.ref C :: vs) Q (E σ) hr I3.env0 b r2 q2) fun r s' hq => (by
      cases r with
      | error e => exact hx σ _ H2 s3 e s' I3 hq
      | ok fl =>
        cases fl with
        | ret u => exact I3.after hq
        | next => exact False.elim hq
        | brk => exact False.elim hq
        | cont => exact False.elim hq)))
  exact thn z fun _ _ y => ClX.unpinE y
theorem seqTN {K : PySem.W.Frag} {H H' : Hp} {a : Addr} {xs : List V} (h : SqT K H a xs) (e : LamX.ExtN H H') : SqT K H' a xs := by
  rcases h with (h | ⟨o, h⟩) | h
  · exact .inl (.inl (e _ _ h fun ps z => by cases z))
  · exact .inl (.inr ⟨o, e _ _ h fun ps z => by cases z⟩)
  · exact .inr h
theorem passN {E : XK} (h : Passes CX X E) : ∀ σ : L2.St, PassesAt CX X σ ((fun _ => E) σ) := fun σ pins H s e s' I c => h pins σ H s e s' I c
end
end JW
namespace JW
theorem lngL_closed : ∀ {l : List T}, jtsL l = 0 → lngL l = 0
  | [], _ => rfl
  | t :: r, h => by
    have h2 : t.jts + jtsL r = 0 := h
    show ite _ _ _ = 0
    rw [if_pos (by omega)]
    exact lngL_closed (by omega)
theorem grfL_jts (p : T) (l : List T) : jtsL (l.map (T.grf p)) = jtsL l * p.jts := by
  have h := grf_jts p (.bas l)
  rw [grf_bas] at h
  have h2 : jtsL (sortT (l.map (T.grf p))) = jtsL l * p.jts := h
  rw [jtsL_perm (sortT_perm _)] at h2
  exact h2
theorem grf_dep (p : T) : ∀ t : T, (T.grf p t).dep = if t.jts = 0 then t.dep else max t.dep (t.lng + p.dep) := by
  refine T.ind' ?_ fun l ih => ?_
  · show p.dep = ite ((1 : Nat) = 0) 0 (max 0 (0 + p.dep))
    rw [if_neg (by decide)]
    omega
  rw [grf_bas]
  show 1 + depL (sortT (l.map (T.grf p))) = ite (jtsL l = 0) (1 + depL l) (max (1 + depL l) (1 + lngL l + p.dep))
  rw [depL_perm (sortT_perm _)]
  have go : ∀ l : List T, (∀ t ∈ l, (T.grf p t).dep = if t.jts = 0 then t.dep else max t.dep (t.lng + p.dep)) → depL (l.map (T.grf p)) = if jtsL l = 0 then depL l else max (depL l) (lngL l + p.dep) := by
    intro l
    induction l with
    | nil => intro _; rfl
    | cons t r ihr =>
      intro h
      have h1 := h t List.mem_cons_self
      have h2 := ihr fun u hu => h u (List.mem_cons_of_mem _ hu)
      show max (T.grf p t).dep (depL (r.map (T.grf p))) = ite (t.jts + jtsL r = 0) (max t.dep (depL r)) (max (max t.dep (depL r)) ((if t.jts = 0 then lngL r else max t.lng (lngL r)) + p.dep))
      rw [h1, h2]
      by_cases ht : t.jts = 0 <;> by_cases hr : jtsL r = 0
      · simp [ht, hr]
      · simp [ht, hr] <;> omega
      · rw [lngL_closed hr]; simp [ht, hr] <;> omega
      · simp [ht, hr] <;> omega
  rw [go l ih]
  by_cases h : jtsL l = 0
  · simp [h]
  · simp [h]; omega
theorem mul_zero_iff {a b : Nat} (hb : b ≠ 0) : a * b = 0 ↔ a = 0 := ⟨fun h => (Nat.mul_eq_zero.mp h).resolve_right hb, fun h => by rw [h, Nat.zero_mul]⟩
theorem grf_lng {p : T} (hp : p.jts ≠ 0) : ∀ t : T, t.jts ≠ 0 → (T.grf p t).lng = t.lng + p.lng := by
  refine T.ind' (fun _ => (Nat.zero_add _).symm) fun l ih h => ?_
  rw [grf_bas]
  show 1 + lngL (sortT (l.map (T.grf p))) = 1 + lngL l + p.lng
  rw [lngL_perm (sortT_perm _)]
  have go : ∀ l : List T, (∀ t ∈ l, t.jts ≠ 0 → (T.grf p t).lng = t.lng + p.lng) → jtsL l ≠ 0 → lngL (l.map (T.grf p)) = lngL l + p.lng := by
    intro l
    induction l with
    | nil => intro _ h; exact absurd rfl h
    | cons t r ihr =>
      intro h hl
      have hl2 : t.jts + jtsL r ≠ 0 := hl
      have h1 := h t List.mem_cons_self
      have h2 := ihr fun u hu => h u (List.mem_cons_of_mem _ hu)
      have e1 : (T.grf p t).jts = 0 ↔ t.jts = 0 := by rw [grf_jts]; exact mul_zero_iff hp
      show ite ((T.grf p t).jts = 0) _ (max (T.grf p t).lng (lngL (r.map (T.grf p)))) = ite (t.jts = 0) (lngL r) (max t.lng (lngL r)) + p.lng
      by_cases ht : t.jts = 0
      · rw [if_pos (e1.mpr ht), if_pos ht]
        exact h2 (by omega)
      · rw [if_neg (fun z => ht (e1.mp z)), if_neg ht, h1 ht]
        by_cases hr : jtsL r = 0
        · rw [lngL_closed hr, lngL_closed (by rw [grfL_jts, hr, Nat.zero_mul])]
          omega
        · rw [h2 hr]
          omega
  rw [go l ih h]
  omega
theorem grf_sht {p : T} (hp : p.jts ≠ 0) : ∀ t : T, t.jts ≠ 0 → (T.grf p t).sht = t.sht + p.sht := by
  refine T.ind' (fun _ => (Nat.zero_add _).symm) fun l ih h => ?_
  rw [grf_bas]
  show 1 + shtL (sortT (l.map (T.grf p))) = 1 + shtL l + p.sht
  rw [shtL_perm (sortT_perm _)]
  have go : ∀ l : List T, (∀ t ∈ l, t.jts ≠ 0 → (T.grf p t).sht = t.sht + p.sht) → jtsL l ≠ 0 → shtL (l.map (T.grf p)) = shtL l + p.sht := by
    intro l
    induction l with
    | nil => intro _ h; exact absurd rfl h
    | cons t r ihr =>
      intro h hl
      have hl2 : t.jts + jtsL r ≠ 0 := hl
      have h1 := h t List.mem_cons_self
      have h2 := ihr fun u hu => h u (List.mem_cons_of_mem _ hu)
      have e1 : (T.grf p t).jts = 0 ↔ t.jts = 0 := by rw [grf_jts]; exact mul_zero_iff hp
      have e2 : jtsL (r.map (T.grf p)) = 0 ↔ jtsL r = 0 := by rw [grfL_jts]; exact mul_zero_iff hp
      show ite ((T.grf p t).jts = 0) _ (ite (jtsL (r.map (T.grf p)) = 0) (T.grf p t).sht (min (T.grf p t).sht (shtL (r.map (T.grf p))))) = ite (t.jts = 0) (shtL r) (ite (jtsL r = 0) t.sht (min t.sht (shtL r))) + p.sht
      by_cases ht : t.jts = 0
      · rw [if_pos (e1.mpr ht), if_pos ht]
        exact h2 (by omega)
      · rw [if_neg (fun z => ht (e1.mp z)), if_neg ht, h1 ht]
        by_cases hr : jtsL r = 0
        · rw [if_pos (e2.mpr hr), if_pos hr]
        · rw [if_neg (fun z => hr (e2.mp z)), if_neg hr, h2 hr]
          omega
  rw [go l ih h]
  omega
theorem grf_size_le (p t : T) : t.size ≤ (T.grf p t).size := by
  have h := grf_size p t
  have h2 := size_pos p
  have h3 : t.jts * 1 ≤ t.jts * p.size := Nat.mul_le_mul_left _ h2
  omega
theorem grf_dep_le (p t : T) : t.dep ≤ (T.grf p t).dep := by
  rw [grf_dep]
  split <;> omega
def prodT : List T → T := List.foldl (fun f t => T.grf t f) .jet
theorem prod_snoc (l : List T) (t : T) : prodT (l ++ [t]) = T.grf t (prodT l) := by
  unfold prodT
  rw [List.foldl_append] <;> rfl
theorem fold_le : ∀ (r : List T) (f : T), f.size ≤ (r.foldl (fun f t => T.grf t f) f).size ∧ f.dep ≤ (r.foldl (fun f t => T.grf t f) f).dep
  | [], f => ⟨Nat.le_refl _, Nat.le_refl _⟩
  | t :: r, f => by
    obtain ⟨h1, h2⟩ := fold_le r (T.grf t f)
    exact ⟨Nat.le_trans (grf_size_le t f) h1, Nat.le_trans (grf_dep_le t f) h2⟩
theorem prod_take_le (l : List T) (i : Nat) : (prodT (l.take i)).size ≤ (prodT l).size ∧ (prodT (l.take i)).dep ≤ (prodT l).dep := by
  have e : prodT l = (l.drop i).foldl (fun f t => T.grf t f) (prodT (l.take i)) := by
    unfold prodT
    rw [← List.foldl_append, List.take_append_drop]
  rw [e]
  exact fold_le _ _
theorem prod_can {l : List T} (h : ∀ t ∈ l, Can t) : Can (prodT l) := by
  have go : ∀ (l : List T) (f : T), Can f → (∀ t ∈ l, Can t) → Can (l.foldl (fun f t => T.grf t f) f) := by
    intro l
    induction l with
    | nil => intro f hf _; exact hf
    | cons t r ih => intro f hf hl; exact ih _ (grf_can (hl t List.mem_cons_self) f) fun u hu => hl u (List.mem_cons_of_mem _ hu)
  exact go l .jet trivial h
end JW
namespace JW
open PySem PySem.Spec PyProof.Rows L2
end JW
namespace JW
open PySem PySem.Spec PyProof.Rows L2 LamX
def ExtF (d : Addr) (H H' : Hp) : Prop := ∀ b o, b ≠ d → H b = some o → (∀ ps, o ≠ .tbl ps) → H' b = some o
section
variable {d : Addr} {H H1 H' : Hp} {C : Addr}
theorem ExtF.refl (d : Addr) (H : Hp) : ExtF d H H := fun _ _ _ h _ => h
theorem ExtF.trans (a : ExtF d H H1) (b : ExtF d H1 H') : ExtF d H H' := fun c o h1 h n => b c o h1 (a c o h1 h n) n
theorem ExtF.ofN (e : ExtN H H') : ExtF d H H' := fun b o _ h n => e b o h n
theorem FeedAt.extN (h : FeedAt H d) (e : ExtN H H') : FeedAt H' d := by
  obtain ⟨a, b, c, z⟩ := h
  exact ⟨a, b, c, e _ _ z fun ps q => by cases q⟩
theorem ExtF.mine {H0 : Hp} (a : L2.Same H0 H) (hd : H0 d = none) (b : ExtF d H H') : ExtN H0 H' := fun c o h n => b c o (ne_of_none h hd) (a c o h) n
mutual
theorem ftn_extF (f : FeedAt H d) (s : ExtF d H H') : ∀ (t : T) (v : V), Ftn C H t v → Ftn C H' t v
  | .jet, v, h => by
    have h2 : ∃ a dx b n, v = .ref a ∧ H a = some (.ins C dx (flds .jet b n)) ∧ H b = some (.tup []) ∧ H n = some (.tup (nums .jet)) := h
    obtain ⟨a, dx, b, n, ev, h1, h2, h3⟩ := h2
    obtain ⟨x, y, z, e⟩ := f
    exact ⟨a, dx, b, n, ev, s _ _ (ne_of h1 e fun z => by cases z) h1 (fun ps z => by cases z), s _ _ (ne_of h2 e fun z => by cases z) h2 (fun ps z => by cases z), s _ _ (ne_of h3 e fun z => by cases z) h3 (fun ps z => by cases z)⟩
  | .bas l, v, h => by
    have h2 : ∃ a dx b n vs, v = .ref a ∧ H a = some (.ins C dx (flds (.bas l) b n)) ∧ H b = some (.tup vs) ∧ H n = some (.tup (nums (.bas l))) ∧ FtnL C H l vs := h
    obtain ⟨a, dx, b, n, vs, ev, h1, h2, h3, h4⟩ := h2
    have h4' := ftnL_extF f s l vs h4
    obtain ⟨x, y, z, e⟩ := f
    exact ⟨a, dx, b, n, vs, ev, s _ _ (ne_of h1 e fun z => by cases z) h1 (fun ps z => by cases z), s _ _ (ne_of h2 e fun z => by cases z) h2 (fun ps z => by cases z), s _ _ (ne_of h3 e fun z => by cases z) h3 (fun ps z => by cases z), h4'⟩
theorem ftnL_extF (f : FeedAt H d) (s : ExtF d H H') : ∀ (l : List T) (vs : List V), FtnL C H l vs → FtnL C H' l vs
  | [], vs, h => h
  | t :: ts, vs, h => by
    have h2 : ∃ v r, vs = v :: r ∧ Ftn C H t v ∧ FtnL C H ts r := h
    obtain ⟨v, r, ev, h1, h2⟩ := h2
    exact ⟨v, r, ev, ftn_extF f s t v h1, ftnL_extF f s ts r h2⟩
end
theorem Ftn.fx {t : T} {v : V} (h : Ftn C H t v) (f : FeedAt H d) (s : ExtF d H H') : Ftn C H' t v := ftn_extF f s t v h
theorem own_of {K : PySem.W.Frag} {sp : Sp} {E : XK} {x y : V} {Q : VK} {t b : T} (hx : Ftn (cF K) H t x) (hy : Ftn (cF K) H b y) (h : sp [x, y] H (fun v H' => v ≠ .non ∧ Q v H') E) : rOwn (cF K) sp E x y H Q := by
  obtain ⟨a, da, b1, n, vs, rfl, h1, _⟩ := ftn_iff.mp hx
  obtain ⟨b, db, b2, m, ws, rfl, h2, _⟩ := ftn_iff.mp hy
  exact ⟨a, da, _, b, db, _, rfl, rfl, h1, h2, h⟩
end
end JW
namespace JW
open PySem PySem.Spec PyProof.Rows L2 He
def seenN (vis a : Nat) : Bool := Nat.beq (Nat.mod (Nat.shiftRight vis a) 2) 1
def addF {β : Type} : List Addr → Nat → List Addr → (Nat → List Addr → β) → β
  | [], vis, acc, k => k vis acc
  | a :: r, vis, acc, k => match seenN vis a with
    | true => addF r vis acc k
    | false => HandSHeadRun.frNat (Nat.lor vis (Nat.shiftLeft 1 a)) fun v => addF r v (a :: acc) k
def expandF {β : Type} (g : Addr → Option Obj) : List Addr → Nat → List Addr → (Nat → List Addr → β) → β
  | [], vis, acc, k => k vis acc
  | a :: r, vis, acc, k => match g a with
    | some o => addF (refsD o) vis acc fun v acc => expandF g r v acc k
    | none => expandF g r vis acc k
def levelsF (g : Addr → Option Obj) : Nat → List Addr → List Addr → Nat → List Addr
  | 0, all, fr, _ => all ++ fr
  | n + 1, all, fr, vis => expandF g fr vis [] fun v nf => levelsF g n (all ++ fr) nf v
def asE (g : Addr → Option Obj) (n : Nat) : List Addr := levelsF g n [] [mainGlobals] (Nat.shiftLeft 1 mainGlobals) ++ [PySem.cStatics]
structure FxD where
  adr : PySem.W.Frag → Addr
  name : Str
  qual : Str
  params : Arguments
  body : List Stmt
  scope : Scope
def FxD.val (d : FxD) : FnW := some (d.name, d.qual, d.params, .stmts d.body, d.scope, mainGlobals, [], builtinsNs)
def FxD.okF (K : PySem.W.Frag) (d : FxD) : Bool := PySem.W.keepIn K (.ref (d.adr K)) && (match K.lookup (d.adr K) with
  | some ⟨_, _, .func fd, _⟩ => PySem.W.codeIn K fd.code d.qual && (dflB K fd.defaults [] && kwdB K fd.kwdefaults [])
  | _ => false)
theorem FxD.funD {K : PySem.W.Frag} {d : FxD} (e : fnWa K (d.adr K) = d.val) (c : d.okF K = true) : ∃ fd, FunD K d.name d.qual d.params d.body d.scope [] [] (d.adr K) fd := by
  obtain ⟨kp, c2⟩ := ba c
  unfold fnWa at e
  cases q : K.lookup (d.adr K) with
  | none =>
    rw [q] at c2
    cases c2
  | some o =>
    obtain ⟨oc, od, dt, osl⟩ := o
    rw [q] at c2 e
    cases dt with
    | func fd =>
      obtain ⟨m1, m2, m3, m4, m5, m6, m7, m8, m9, m10, m11, m12, m13, m14, m15⟩ := fd
      have e2 : (some (m1, m2, m3, m4, m5, m6, m7, m15) : FnW) = some (d.name, d.qual, d.params, .stmts d.body, d.scope, mainGlobals, [], builtinsNs) := e
      simp only [Option.some.injEq, Prod.mk.injEq] at e2
      obtain ⟨h1, h2, h3, h4, h5, h6, h7, h8⟩ := e2
      subst h1 h2 h3 h4 h5 h6 h7 h8
      have c3 : (PySem.W.codeIn K m13 d.qual && (dflB K m8 [] && kwdB K m9 [])) = true := c2
      obtain ⟨k1, k2⟩ := ba c3
      obtain ⟨k3, k4⟩ := ba k2
      exact ⟨_, ⟨oc, od, m8, m9, m10, m11, m12, m13, m14, osl, rfl, q, k1, dflB_ok k3, kwdB_ok k4⟩, kp⟩
    | _ => cases c2
def propB (K : PySem.W.Frag) (p : Str × Str) : Bool := PrD.okP K ⟨p, "", "", defArgs (.Pass ⟨0, 0, 0, 0⟩), [], defScope (.Pass ⟨0, 0, 0, 0⟩)⟩
theorem propB_ok {K : PySem.W.Frag} {p : Str × Str} (h : propB K p = true) : PropOf K (ga K p.1) p.2 (ma K (ga K p.1) p.2) (gAd K p) := PrD.propOf (d := ⟨p, "", "", defArgs (.Pass ⟨0, 0, 0, 0⟩), [], defScope (.Pass ⟨0, 0, 0, 0⟩)⟩) h
def cmAd (K : PySem.W.Frag) (p : Str × Str) : Addr := match PySem.W.findCls K (.ref (ga K p.1)) (.type "type") p.2 with
  | some (.get _ (.ref q) _ _) => q
  | _ => 0
def cgAd (K : PySem.W.Frag) (p : Str × Str) : Addr := match PySem.W.recIn K (cmAd K p) "classmethod" with
  | some (.ref g :: _) => g
  | _ => 0
def readB (K : PySem.W.Frag) (C : Addr) : Bool := PySem.W.readsIn K C (.type "type") && eqO (PySem.W.specialIn K (.ref C) "__getattribute__") (some (some (.builtin "type.__getattribute__")))
theorem readB_ok {K : PySem.W.Frag} {C : Addr} (h : readB K C = true) : ClX.CRead K C (.type "type") := by
  obtain ⟨h1, h2⟩ := ba h
  exact ⟨h1, eqO_ok h2⟩
def cmB (K : PySem.W.Frag) (p : Str × Str) : Bool := readB K (ga K p.1) && ((match PySem.W.findCls K (.ref (ga K p.1)) (.type "type") p.2 with
  | some (.get (.builtin i) (.ref _) .none (.ref c)) => decide (i = "classmethod.__get__") && decide (c = ga K p.1)
  | _ => false) && ((match PySem.W.recIn K (cmAd K p) "classmethod" with
  | some (.ref _ :: _) => true
  | _ => false) && PySem.W.fnIn K (cgAd K p)))
theorem cmB_ok {K : PySem.W.Frag} {p : Str × Str} (h : cmB K p = true) : ClX.CRead K (ga K p.1) (.type "type") ∧ ClX.CMet K (ga K p.1) (.type "type") p.2 (cmAd K p) (cgAd K p) := by
  obtain ⟨h1, h⟩ := ba h
  obtain ⟨h2, h⟩ := ba h
  obtain ⟨h3, h4⟩ := ba h
  refine ⟨readB_ok h1, ?_, ?_, h4⟩
  · unfold cmAd
    generalize PySem.W.findCls K (.ref (ga K p.1)) (.type "type") p.2 = r at h2 ⊢
    cases r with
    | none => cases h2
    | some f =>
      cases f with
      | val v => cases h2
      | get g a o t =>
        cases g with
        | builtin i =>
          cases a with
          | ref q =>
            cases o with
            | none =>
              cases t with
              | ref c =>
                obtain ⟨z1, z2⟩ := ba (show (decide (i = "classmethod.__get__") && decide (c = ga K p.1)) = true from h2)
                rw [of_decide_eq_true z1, of_decide_eq_true z2]
              | _ => cases h2
            | _ => cases h2
          | _ => cases h2
        | _ => cases h2
  · unfold cgAd
    generalize PySem.W.recIn K (cmAd K p) "classmethod" = r at h3 ⊢
    cases r with
    | none => cases h3
    | some l =>
      cases l with
      | nil => cases h3
      | cons v rest =>
        cases v with
        | ref g => exact ⟨rest, rfl⟩
        | _ => cases h3
def oexB (K : PySem.W.Frag) (C : Addr) : Bool := (match K.lookup C with
  | some ⟨.type t, _, .cls cd, sl⟩ => decide (t = "type") && (match cd.mro, sl.toList with
    | .ref c :: bm, [_, _, _, _, some (.builtin n), _] => decide (c = C) && (decide (n = "ValueError.__new__") && (!cd.hasDel && (cd.hasDict && PySem.HandSPX.refsVE bm)))
    | _, _ => false)
  | _ => false) && (eqO (PySem.W.findIn K (.ref C) "__setattr__") (some (some (.builtin "object.__setattr__"))) && (decide (PySem.W.subIn K (.ref C) (.type "BaseException") = some true) && (decide (PySem.W.typeIn K (.ref C) = some (.type "type")) && PySem.W.keepIn K (.ref C))))
theorem oexB_ok {K : PySem.W.Frag} {C : Addr} (h : oexB K C = true) : OexC K C := by
  obtain ⟨h1, h⟩ := ba h
  obtain ⟨h2, h⟩ := ba h
  obtain ⟨h3, h⟩ := ba h
  obtain ⟨h4, h5⟩ := ba h
  refine ⟨?_, eqO_ok h2, of_decide_eq_true h3, of_decide_eq_true h4, h5⟩
  cases q : K.lookup C with
  | none =>
    rw [q] at h1
    cases h1
  | some o =>
    obtain ⟨oc, od, dt, sl⟩ := o
    rw [q] at h1
    cases oc with
    | type t =>
      cases dt with
      | cls cd =>
        obtain ⟨z1, z2⟩ := ba h1
        obtain ⟨nm, bs, mro, ns, qn, hd, sn, sub, ab, col, del⟩ := cd
        dsimp only at z2
        cases mro with
        | nil => cases z2
        | cons v bm =>
          cases v with
          | ref c =>
            obtain ⟨sl⟩ := sl
            match sl, z2 with
            | [k0, k1, k2, k3, some (.builtin n), k5], z2 =>
              obtain ⟨y1, y⟩ := ba (show (decide (c = C) && (decide (n = "ValueError.__new__") && (!del && (hd && PySem.HandSPX.refsVE bm)))) = true from z2)
              obtain ⟨y2, y⟩ := ba y
              obtain ⟨y3, y⟩ := ba y
              obtain ⟨y4, y5⟩ := ba y
              have ec := of_decide_eq_true y1
              have en := of_decide_eq_true y2
              have ed : del = false := by simpa using y3
              have et := of_decide_eq_true z1
              subst ec en ed et y4
              exact ⟨nm, qn, ns, bs, bm, sn, sub, ab, col, od, k0, k1, k2, k3, k5, rfl, y5⟩
          | _ => cases z2
      | _ => cases h1
    | _ => cases h1
def excB (K : PySem.W.Frag) (D : Addr) : Bool := eqO (PySem.W.findIn K (.ref D) "__getattribute__") (some (some (.builtin "BaseException.__getattribute__"))) && (eqO (PySem.W.findIn K (.ref D) "__getattr__") (some none) &&
  (decide (PySem.W.subIn K (.ref D) (.type "BaseException") = some true) && (PySem.W.hasDictIn K D && (eqO (PySem.W.findIn K (.ref D) "__class__") (some (some (.builtin "object.__class__"))) &&
  (eqO (PySem.W.specialIn K (.builtin "object.__class__") "__get__") (some (some (.builtin "getset_descriptor.__get__"))) && (decide (PySem.W.takesIn K (.builtin "object.__class__") = some true) && decide (PySem.W.mroIn K D (.type "object") = some true)))))))
theorem excB_ok {K : PySem.W.Frag} {D : Addr} (h : excB K D = true) : ExcC K D := by
  obtain ⟨h1, h⟩ := ba h
  obtain ⟨h2, h⟩ := ba h
  obtain ⟨h3, h⟩ := ba h
  obtain ⟨h4, h⟩ := ba h
  obtain ⟨h5, h⟩ := ba h
  obtain ⟨h6, h⟩ := ba h
  obtain ⟨h7, h8⟩ := ba h
  exact ⟨eqO_ok h1, eqO_ok h2, of_decide_eq_true h3, h4, eqO_ok h5, eqO_ok h6, of_decide_eq_true h7, of_decide_eq_true h8⟩
def errB (K : PySem.W.Frag) (x : Str) : Bool := oexB K (ga K x) && (xfB K (ga K x) && (excB K (ga K x) && (eqO (PySem.W.findIn K (.ref (ga K x)) "__init__") (some (some (.ref (ma K (ga K x) "__init__")))) && decide (PySem.W.typeIn K (.ref (ma K (ga K x) "__init__")) = some (.type "function")))))
theorem errB_ok {K : PySem.W.Frag} {x : Str} (h : errB K x = true) : ErrC K (ga K x) ∧ PySem.W.findIn K (.ref (ga K x)) "__init__" = some (some (.ref (ma K (ga K x) "__init__"))) ∧ PySem.W.typeIn K (.ref (ma K (ga K x) "__init__")) = some (.type "function") := by
  obtain ⟨h1, h⟩ := ba h
  obtain ⟨h2, h⟩ := ba h
  obtain ⟨h3, h⟩ := ba h
  obtain ⟨h4, h5⟩ := ba h
  exact ⟨⟨oexB_ok h1, xfB_ok h2, excB_ok h3⟩, eqO_ok h4, of_decide_eq_true h5⟩
def baseB (K : PySem.W.Frag) (x : Str) : Bool := readB K (ga K x) && (match PySem.W.findCls K (.ref (ga K x)) (.type "type") "__init__" with
  | some (.val (.builtin i)) => decide (i = "ValueError.__init__")
  | _ => false)
theorem baseB_ok {K : PySem.W.Frag} {x : Str} (h : baseB K x = true) : InitBy K (ga K x) := by
  obtain ⟨h1, h2⟩ := ba h
  refine ⟨.type "type", readB_ok h1, ?_⟩
  generalize PySem.W.findCls K (.ref (ga K x)) (.type "type") "__init__" = r at h2 ⊢
  cases r with
  | none => cases h2
  | some f =>
    cases f with
    | get g a o t => cases h2
    | val v =>
      cases v with
      | builtin i => rw [of_decide_eq_true h2]
      | _ => cases h2
def kitB (K : PySem.W.Frag) (q : Str × Str × Bool) : Bool := decide (PySem.W.kitOne K (.ref (ga K q.1)) (.ref (ga K q.2.1)) = some q.2.2)
def exmB (K : PySem.W.Frag) (q : Str × Str × Bool) : Bool := decide (PySem.W.exmOne K (.ref (ga K q.1)) (.ref (ga K q.2.1)) = some q.2.2)
structure SaysE (fa : List Fa) (fn : List DefD) (tf : List Defn) (ex : PySem.W.Frag → Bool) (fx : List FxD) (h : Heap) (K : PySem.W.Frag) : Prop where
  d : SaysD fa fn K
  more : ex K = true
  hd : ∀ p ∈ tf, PySem.W.codeHdIn K (cT K p).1 (cT K p).2 = true
  out : ∀ p ∈ tf, K.lookup (cT K p).2 = none
  empty : ∀ p ∈ tf, h.get? (cT K p).2 = some { cls := .none, data := .fields #[] }
  p : fx.map (fun d => fnWa K (d.adr K)) = fx.map FxD.val
  ok : (fx.all fun d => d.okF K) = true
abbrev AlE : Type := AlD × Bool × List FnW × Bool
def obsE' (fa : List Fa) (fn : List DefD) (tf : List Defn) (ex : PySem.W.Frag → Bool) (fx : List FxD) (g : Addr → Option Obj) (K : PySem.W.Frag) : AlE :=
  (obsD fa fn K, ex K && tabsB g tf K, fx.map (fun d => fnWa K (d.adr K)), fx.all fun d => d.okF K)
def obsE (n : Nat) (fa : List Fa) (fn : List DefD) (tf : List Defn) (ex : PySem.W.Frag → Bool) (fx : List FxD) (g : Addr → Option Obj) : AlE := obsE' fa fn tf ex fx g (frT g (asE g n))
def valE (fn : List DefD) (fx : List FxD) : AlE := (valD fn, true, fx.map FxD.val, true)
theorem saysE_of {n : Nat} {fa : List Fa} {fn : List DefD} {tf : List Defn} {ex : PySem.W.Frag → Bool} {fx : List FxD} {h : Heap} (e : obsE n fa fn tf ex fx h.get? = valE fn fx) : SaysE fa fn tf ex fx h (frT h.get? (asE h.get? n)) := by
  unfold obsE at e
  have z1 := congrArg (fun z : AlE => z.1) e
  have z2 := congrArg (fun z : AlE => z.2.1) e
  have z3 := congrArg (fun z : AlE => z.2.2.1) e
  have z4 := congrArg (fun z : AlE => z.2.2.2) e
  have inK : ∀ {a : Addr} {o : Obj}, h.get? a = some o → emptyTab o = true → (frT h.get? (asE h.get? n)).lookup a = none := fun q z => frT_none q z
  generalize frT h.get? (asE h.get? n) = K at z1 z2 z3 z4 inK ⊢
  obtain ⟨y1, y2⟩ := ba (show (ex K && tabsB h.get? tf K) = true from z2)
  have key : ∀ p ∈ tf, PySem.W.codeHdIn K (cT K p).1 (cT K p).2 = true ∧ ∃ o, h.get? (cT K p).2 = some o ∧ emptyTab o = true := fun p hp => by
    obtain ⟨w1, w2⟩ := ba (List.all_eq_true.mp y2 p hp)
    refine ⟨w1, ?_⟩
    cases q : h.get? (cT K p).2 with
    | none =>
      rw [q] at w2
      cases w2
    | some o =>
      rw [q] at w2
      exact ⟨o, rfl, w2⟩
  refine ⟨z1, y1, fun p hp => (key p hp).1, fun p hp => ?_, fun p hp => ?_, z3, z4⟩
  · obtain ⟨_, o, q, z⟩ := key p hp
    exact inK q z
  · obtain ⟨_, o, q, z⟩ := key p hp
    rw [q, emptyTab_eq z]
def hookE (n : Nat) (fa : List Fa) (fn : List DefD) (tf : List Defn) (ex : PySem.W.Frag → Bool) (fx : List FxD) : PySem.W.Hook where
  α := AlE
  obs := fun s => obsE n fa fn tf ex fx s.heap.get?
  val := fun _ => valE fn fx
  says := fun _ h => ∃ K : PySem.W.Frag, K.In h ∧ SaysE fa fn tf ex fx h K
  of := fun _ _ e => ⟨_, frT_in, saysE_of e⟩
  keeps := fun _ _ _ ⟨K, hK, c⟩ k => ⟨K, PySem.W.Frag.In.keeps hK k, ⟨c.d, c.more, c.hd, c.out, fun p hp => k _ _ (c.empty p hp), c.p, c.ok⟩⟩
theorem obsE_eq {n : Nat} {fa : List Fa} {fn : List DefD} {tf : List Defn} {ex : PySem.W.Frag → Bool} {fx : List FxD} {g : Addr → Option Obj} {s : Shared} (h : ∀ a, g a = s.heap.get? a) : obsE n fa fn tf ex fx g = (hookE n fa fn tf ex fx).obs s := by
  have e : g = s.heap.get? := funext h
  rw [e] <;> rfl
section
variable {fa : List Fa} {fn : List DefD} {tf : List Defn} {ex : PySem.W.Frag → Bool} {fx : List FxD} {h : Heap} {K : PySem.W.Frag}
theorem SaysE.fxAt (c : SaysE fa fn tf ex fx h K) (i : Nat) {d : FxD} (hi : fx[i]? = some d) : ∃ fd, FunD K d.name d.qual d.params d.body d.scope [] [] (d.adr K) fd := by
  refine FxD.funD ?_ (List.all_eq_true.mp c.ok d (List.mem_of_getElem? hi))
  have e2 : (fx.map fun d => fnWa K (d.adr K))[i]? = (fx.map FxD.val)[i]? := by rw [c.p]
  rw [List.getElem?_map, List.getElem?_map, hi] at e2
  exact Option.some.inj e2
theorem all_at {α : Type} {l : List α} {f : α → Bool} (h : l.all f = true) (i : Nat) {a : α} (hi : l[i]? = some a) : f a = true := List.all_eq_true.mp h a (List.mem_of_getElem? hi)
end
end JW
namespace AL
end AL
namespace JW
open PySem PySem.Spec PyProof.Rows L2 AL
def top (i : Nat) : Stmt := PySem.Challenge.pw_jetworks_k39_kinds_refuse_closed_ones.main.body.getD i (.Pass ⟨0, 0, 0, 0⟩)
abbrev s_Closed___init__ : Stmt := inClass (top 7) 0
theorem sc_Closed___init__ : FnScope ["self"] ["self"] (defScope s_Closed___init__) := ⟨rfl, rfl, rfl, by decide +kernel, rfl, by decide +kernel, by decide +kernel⟩
abbrev s_TooLarge___init__ : Stmt := inClass (top 8) 0
theorem sc_TooLarge___init__ : FnScope ["self", "pieces"] ["self", "pieces"] (defScope s_TooLarge___init__) := ⟨rfl, rfl, rfl, by decide +kernel, rfl, by decide +kernel, by decide +kernel⟩
abbrev s_TooDeep___init__ : Stmt := inClass (top 9) 0
theorem sc_TooDeep___init__ : FnScope ["self", "basins"] ["self", "basins"] (defScope s_TooDeep___init__) := ⟨rfl, rfl, rfl, by decide +kernel, rfl, by decide +kernel, by decide +kernel⟩
abbrev s_check_numbers : Stmt := top 18
theorem sc_check_numbers : FnScope ["numbers"] ["numbers"] (defScope s_check_numbers) := ⟨rfl, rfl, rfl, by decide +kernel, rfl, by decide +kernel, by decide +kernel⟩
abbrev s_basin_numbers : Stmt := top 19
theorem sc_basin_numbers : FnScope ["branches", "size", "jets", "depth", "opened", "longest", "branch"] ["branches"] (defScope s_basin_numbers) := ⟨rfl, rfl, rfl, by decide +kernel, rfl, by decide +kernel, by decide +kernel⟩
abbrev s_product_numbers : Stmt := top 20
theorem sc_product_numbers : FnScope ["one", "other", "depth", "size", "jets"] ["one", "other"] (defScope s_product_numbers) := ⟨rfl, rfl, rfl, by decide +kernel, rfl, by decide +kernel, by decide +kernel⟩
abbrev s_parsed : Stmt := top 21
theorem sc_parsed : FnScope ["text", "pending", "found", "is_complete", "at", "sign", "part"] ["text"] (defScope s_parsed) := ⟨rfl, rfl, rfl, by decide +kernel, rfl, by decide +kernel, by decide +kernel⟩
abbrev s_made : Stmt := top 22
theorem sc_made : FnScope ["branches", "ordered", "branch"] ["branches"] (defScope s_made) := ⟨rfl, rfl, rfl, by decide +kernel, rfl, by decide +kernel, by decide +kernel⟩
abbrev s_allowed : Stmt := top 23
abbrev s_grafted : Stmt := top 24
theorem sc_grafted : FnScope ["fountain", "part", "branch"] ["fountain", "part"] (defScope s_grafted) := ⟨rfl, rfl, rfl, by decide +kernel, rfl, by decide +kernel, by decide +kernel⟩
abbrev s_cut : Stmt := top 25
theorem sc_cut : FnScope ["fountain", "part", "branch"] ["fountain", "part"] (defScope s_cut) := ⟨rfl, rfl, rfl, by decide +kernel, rfl, by decide +kernel, by decide +kernel⟩
abbrev s_bare_place : Stmt := top 26
theorem sc_bare_place : FnScope ["fountain", "part", "path", "index", "branch", "found"] ["fountain", "part", "path"] (defScope s_bare_place) := ⟨rfl, rfl, rfl, by decide +kernel, rfl, by decide +kernel, by decide +kernel⟩
abbrev s_carries : Stmt := top 27
abbrev s_multiplied : Stmt := top 29
theorem sc_multiplied : FnScope ["factors", "numbers", "factor", "found"] ["factors"] (defScope s_multiplied) := ⟨rfl, rfl, rfl, by decide +kernel, rfl, by decide +kernel, by decide +kernel⟩
abbrev s_Fountain___init__ : Stmt := inClass (top 30) 0
theorem sc_Fountain___init__ : FnScope ["self", "text", "branches", "is_read"] ["self", "text", "branches"] (defScope s_Fountain___init__) := ⟨rfl, rfl, rfl, by decide +kernel, rfl, by decide +kernel, by decide +kernel⟩
abbrev s_Fountain_basin : Stmt := inClass (top 30) 1
abbrev s_Fountain_spray : Stmt := inClass (top 30) 2
abbrev s_Fountain_product : Stmt := inClass (top 30) 3
theorem sc_Fountain_product : FnScope ["cls", "parts"] ["cls", "parts"] (defScope s_Fountain_product) := ⟨rfl, rfl, rfl, by decide +kernel, rfl, by decide +kernel, by decide +kernel⟩
abbrev s_Fountain_text : Stmt := inClass (top 30) 4
theorem sc_Fountain_text : FnScope ["self"] ["self"] (defScope s_Fountain_text) := ⟨rfl, rfl, rfl, by decide +kernel, rfl, by decide +kernel, by decide +kernel⟩
abbrev s_Fountain_parts : Stmt := inClass (top 30) 5
theorem sc_Fountain_parts : FnScope ["self"] ["self"] (defScope s_Fountain_parts) := ⟨rfl, rfl, rfl, by decide +kernel, rfl, by decide +kernel, by decide +kernel⟩
abbrev s_Fountain_size : Stmt := inClass (top 30) 6
theorem sc_Fountain_size : FnScope ["self"] ["self"] (defScope s_Fountain_size) := ⟨rfl, rfl, rfl, by decide +kernel, rfl, by decide +kernel, by decide +kernel⟩
abbrev s_Fountain_jets : Stmt := inClass (top 30) 7
theorem sc_Fountain_jets : FnScope ["self"] ["self"] (defScope s_Fountain_jets) := ⟨rfl, rfl, rfl, by decide +kernel, rfl, by decide +kernel, by decide +kernel⟩
abbrev s_Fountain_depth : Stmt := inClass (top 30) 8
theorem sc_Fountain_depth : FnScope ["self"] ["self"] (defScope s_Fountain_depth) := ⟨rfl, rfl, rfl, by decide +kernel, rfl, by decide +kernel, by decide +kernel⟩
abbrev s_Fountain_longest : Stmt := inClass (top 30) 9
theorem sc_Fountain_longest : FnScope ["self"] ["self"] (defScope s_Fountain_longest) := ⟨rfl, rfl, rfl, by decide +kernel, rfl, by decide +kernel, by decide +kernel⟩
abbrev s_Fountain_shortest : Stmt := inClass (top 30) 10
theorem sc_Fountain_shortest : FnScope ["self"] ["self"] (defScope s_Fountain_shortest) := ⟨rfl, rfl, rfl, by decide +kernel, rfl, by decide +kernel, by decide +kernel⟩
abbrev s_Fountain_is_open : Stmt := inClass (top 30) 11
theorem sc_Fountain_is_open : FnScope ["self"] ["self"] (defScope s_Fountain_is_open) := ⟨rfl, rfl, rfl, by decide +kernel, rfl, by decide +kernel, by decide +kernel⟩
abbrev s_Fountain_is_jet : Stmt := inClass (top 30) 12
theorem sc_Fountain_is_jet : FnScope ["self"] ["self"] (defScope s_Fountain_is_jet) := ⟨rfl, rfl, rfl, by decide +kernel, rfl, by decide +kernel, by decide +kernel⟩
abbrev s_Fountain___eq__ : Stmt := inClass (top 30) 13
theorem sc_Fountain___eq__ : FnScope ["self", "other"] ["self", "other"] (defScope s_Fountain___eq__) := ⟨rfl, rfl, rfl, by decide +kernel, rfl, by decide +kernel, by decide +kernel⟩
abbrev s_Fountain___repr__ : Stmt := inClass (top 30) 14
abbrev s_Fountain___len__ : Stmt := inClass (top 30) 15
abbrev s_Fountain___getitem__ : Stmt := inClass (top 30) 17
abbrev s_Fountain___contains__ : Stmt := inClass (top 30) 18
abbrev s_Fountain___add__ : Stmt := inClass (top 30) 19
abbrev s_Fountain___sub__ : Stmt := inClass (top 30) 20
abbrev s_Fountain___mul__ : Stmt := inClass (top 30) 21
abbrev s_Fountain___floordiv__ : Stmt := inClass (top 30) 23
theorem sc_Fountain___floordiv__ : FnScope ["self", "other", "place"] ["self", "other"] (defScope s_Fountain___floordiv__) := ⟨rfl, rfl, rfl, by decide +kernel, rfl, by decide +kernel, by decide +kernel⟩
abbrev s_Fountain_at : Stmt := inClass (top 30) 24
abbrev s_Fountain_put : Stmt := inClass (top 30) 26
abbrev s_need_open : Stmt := top 32
theorem sc_need_open : FnScope ["fountains", "fountain"] ["fountains"] (defScope s_need_open) := ⟨rfl, rfl, rfl, by decide +kernel, rfl, by decide +kernel, by decide +kernel⟩
abbrev s_shared_tail : Stmt := top 33
theorem sc_shared_tail : FnScope ["words", "least", "count", "word"] ["words"] (defScope s_shared_tail) := ⟨rfl, rfl, rfl, by decide +kernel, rfl, by decide +kernel, by decide +kernel⟩
abbrev s_open_branches : Stmt := top 34
theorem sc_open_branches : FnScope ["fountain", "parts", "index", "part"] ["fountain"] (defScope s_open_branches) := ⟨rfl, rfl, rfl, by decide +kernel, rfl, by decide +kernel, by decide +kernel⟩
abbrev s_word_and_ends : Stmt := top 35
theorem sc_word_and_ends : FnScope ["fountain", "found", "ends", "tail", "branch", "word"] ["fountain"] (defScope s_word_and_ends) := ⟨rfl, rfl, rfl, by decide +kernel, rfl, by decide +kernel, by decide +kernel⟩
abbrev s_word_of : Stmt := top 36
theorem sc_word_of : FnScope ["fountain"] ["fountain"] (defScope s_word_of) := ⟨rfl, rfl, rfl, by decide +kernel, rfl, by decide +kernel, by decide +kernel⟩
abbrev s_uniform : Stmt := top 38
theorem sc_uniform : FnScope ["value"] ["value"] (defScope s_uniform) := ⟨rfl, rfl, rfl, by decide +kernel, rfl, by decide +kernel, by decide +kernel⟩
abbrev s_trimmed : Stmt := top 39
theorem sc_trimmed : FnScope ["own", "rest", "branches", "branch"] ["own", "rest", "branches"] (defScope s_trimmed) := ⟨rfl, rfl, rfl, by decide +kernel, rfl, by decide +kernel, by decide +kernel⟩
abbrev s_below : Stmt := top 40
theorem sc_below : FnScope ["node", "prime", "other", "further"] ["node", "prime"] (defScope s_below) := ⟨rfl, rfl, rfl, by decide +kernel, rfl, by decide +kernel, by decide +kernel⟩
abbrev s_decided : Stmt := top 41
theorem sc_decided : FnScope ["sign", "one", "other"] ["sign", "one", "other"] (defScope s_decided) := ⟨rfl, rfl, rfl, by decide +kernel, rfl, by decide +kernel, by decide +kernel⟩
abbrev s_joined : Stmt := top 42
theorem sc_joined : FnScope ["sign", "one", "other", "texts", "primes", "branches", "prime", "node", "text"] ["sign", "one", "other"] (defScope s_joined) := ⟨rfl, rfl, rfl, by decide +kernel, rfl, by decide +kernel, by decide +kernel⟩
abbrev s_ended : Stmt := top 44
theorem sc_ended : FnScope ["node", "fountain", "prime"] ["node", "fountain"] (defScope s_ended) := ⟨rfl, rfl, rfl, by decide +kernel, rfl, by decide +kernel, by decide +kernel⟩
abbrev s_started : Stmt := top 45
theorem sc_started : FnScope ["node", "fountain", "prime"] ["node", "fountain"] (defScope s_started) := ⟨rfl, rfl, rfl, by decide +kernel, rfl, by decide +kernel, by decide +kernel⟩
abbrev s_named : Stmt := top 46
theorem sc_named : FnScope ["node", "end", "found", "prime", "further"] ["node", "end"] (defScope s_named) := ⟨rfl, rfl, rfl, by decide +kernel, rfl, by decide +kernel, by decide +kernel⟩
abbrev s_Kind___init__ : Stmt := inClass (top 49) 0
theorem sc_Kind___init__ : FnScope ["self", "node"] ["self", "node"] (defScope s_Kind___init__) := ⟨rfl, rfl, rfl, by decide +kernel, rfl, by decide +kernel, by decide +kernel⟩
abbrev s_Kind_ending : Stmt := inClass (top 49) 1
theorem sc_Kind_ending : FnScope ["cls", "b"] ["cls", "b"] (defScope s_Kind_ending) := ⟨rfl, rfl, rfl, by decide +kernel, rfl, by decide +kernel, by decide +kernel⟩
abbrev s_Kind_of : Stmt := inClass (top 49) 2
theorem sc_Kind_of : FnScope ["cls", "parts", "part", "found"] ["cls", "parts"] (defScope s_Kind_of) := ⟨rfl, rfl, rfl, by decide +kernel, rfl, by decide +kernel, by decide +kernel⟩
abbrev s_Kind_every : Stmt := inClass (top 49) 3
abbrev s_Kind_none : Stmt := inClass (top 49) 4
theorem sc_Kind_none : FnScope ["cls"] ["cls"] (defScope s_Kind_none) := ⟨rfl, rfl, rfl, by decide +kernel, rfl, by decide +kernel, by decide +kernel⟩
abbrev s_Kind___eq__ : Stmt := inClass (top 49) 5
theorem sc_Kind___eq__ : FnScope ["self", "other"] ["self", "other"] (defScope s_Kind___eq__) := ⟨rfl, rfl, rfl, by decide +kernel, rfl, by decide +kernel, by decide +kernel⟩
abbrev s_Kind___or__ : Stmt := inClass (top 49) 9
theorem sc_Kind___or__ : FnScope ["self", "other"] ["self", "other"] (defScope s_Kind___or__) := ⟨rfl, rfl, rfl, by decide +kernel, rfl, by decide +kernel, by decide +kernel⟩
abbrev s_Kind___and__ : Stmt := inClass (top 49) 10
abbrev s_Kind___sub__ : Stmt := inClass (top 49) 11
abbrev s_Kind___xor__ : Stmt := inClass (top 49) 12
abbrev s_Kind___mul__ : Stmt := inClass (top 49) 14
theorem sc_Kind___mul__ : FnScope ["self", "other"] ["self", "other"] (defScope s_Kind___mul__) := ⟨rfl, rfl, rfl, by decide +kernel, rfl, by decide +kernel, by decide +kernel⟩
abbrev s_Kind___floordiv__ : Stmt := inClass (top 49) 15
theorem sc_Kind___floordiv__ : FnScope ["self", "other"] ["self", "other"] (defScope s_Kind___floordiv__) := ⟨rfl, rfl, rfl, by decide +kernel, rfl, by decide +kernel, by decide +kernel⟩
abbrev s_Kind_form : Stmt := inClass (top 49) 17
theorem sc_Kind_form : FnScope ["self", "count", "text", "own", "rest"] ["self"] (defScope s_Kind_form) := ⟨rfl, rfl, rfl, by decide +kernel, rfl, by decide +kernel, by decide +kernel⟩
abbrev s__law_feed : Stmt := top 51
theorem sc__law_feed : FnScope ["_law_script", "_law_k", "_law_cell", "_law_seed"] ["_law_script", "_law_k"] (defScope s__law_feed) := ⟨rfl, rfl, rfl, by decide +kernel, rfl, by decide +kernel, by decide +kernel⟩
abbrev s__law_draw : Stmt := top 52
theorem sc__law_draw : FnScope ["_law_feed_here", "_law_limit", "_law_digit", "_law_mixed_here"] ["_law_feed_here", "_law_limit"] (defScope s__law_draw) := ⟨rfl, rfl, rfl, by decide +kernel, rfl, by decide +kernel, by decide +kernel⟩
abbrev s__law_mixed : Stmt := top 53
theorem sc__law_mixed : FnScope ["_law_feed_here", "_law_items", "_law_left", "_law_found"] ["_law_feed_here", "_law_items"] (defScope s__law_mixed) := ⟨rfl, rfl, rfl, by decide +kernel, rfl, by decide +kernel, by decide +kernel⟩
abbrev s__law_norm : Stmt := top 54
theorem sc__law_norm : FnScope ["_law_text", "_law_rows", "_law_sign", "_law_inner"] ["_law_text"] (defScope s__law_norm) := ⟨rfl, rfl, rfl, by decide +kernel, rfl, by decide +kernel, by decide +kernel⟩
abbrev s__law_size : Stmt := top 55
theorem sc__law_size : FnScope ["_law_text"] ["_law_text"] (defScope s__law_size) := ⟨rfl, rfl, rfl, by decide +kernel, rfl, by decide +kernel, by decide +kernel⟩
abbrev s__law_grown : Stmt := top 56
theorem sc__law_grown : FnScope ["_law_feed_here", "_law_room", "_law_pool", "_law_left", "_law_form", "_law_take", "_law_first"] ["_law_feed_here", "_law_room"] (defScope s__law_grown) := ⟨rfl, rfl, rfl, by decide +kernel, rfl, by decide +kernel, by decide +kernel⟩
abbrev s__law_open : Stmt := top 57
theorem sc__law_open : FnScope ["_law_feed_here", "_law_room", "_law_text"] ["_law_feed_here", "_law_room"] (defScope s__law_open) := ⟨rfl, rfl, rfl, by decide +kernel, rfl, by decide +kernel, by decide +kernel⟩
abbrev s__law_closed : Stmt := top 58
theorem sc__law_closed : FnScope ["_law_feed_here", "_law_room"] ["_law_feed_here", "_law_room"] (defScope s__law_closed) := ⟨rfl, rfl, rfl, by decide +kernel, rfl, by decide +kernel, by decide +kernel⟩
abbrev s__law_refused : Stmt := top 59
theorem sc__law_refused : FnScope ["_law_form", "_law_kind", "_law_part", "_law_parts", "_law_found", "e"] ["_law_form", "_law_kind", "_law_part", "_law_parts"] (defScope s__law_refused) := ⟨rfl, rfl, rfl, by decide +kernel, rfl, by decide +kernel, by decide +kernel⟩
abbrev s_law : Stmt := top 60
theorem sc_law : FnScope ["_law_script", "_law_k", "_law_feed_here", "_law_opened", "_law_closed_here", "_law_first", "_law_kind", "_law_before", "_law_parts", "_law_form", "_law_told", "_law_other", "_law_turn"] ["_law_script"] (defScope s_law) := ⟨rfl, rfl, rfl, by decide +kernel, rfl, by decide +kernel, by decide +kernel⟩
open He
def dfn (x : Str) (m : Option Str) (nm q : Str) (s : Stmt) (dv : List Dv) (kw : List (Str × Dv)) : DefD := ⟨(x, m), nm, q, defArgs s, defBody s, defScope s, dv, kw⟩
def fn : List DefD := ([dfn "Closed" (some "__init__") "__init__" "Closed.__init__" s_Closed___init__ [] [], dfn "TooLarge" (some "__init__") "__init__" "TooLarge.__init__" s_TooLarge___init__ [] [], dfn "TooDeep" (some "__init__") "__init__" "TooDeep.__init__" s_TooDeep___init__ [] [], dfn "check_numbers" none "check_numbers" "check_numbers" s_check_numbers [] [], dfn "basin_numbers" none "basin_numbers" "basin_numbers" s_basin_numbers [] [], dfn "product_numbers" none "product_numbers" "product_numbers" s_product_numbers [] [], dfn "parsed" none "parsed" "parsed" s_parsed [] [], dfn "made" none "made" "made" s_made [] [], dfn "allowed" none "allowed" "allowed" s_allowed [] [], dfn "grafted" none "grafted" "grafted" s_grafted [] [], dfn "cut" none "cut" "cut" s_cut [] [], dfn "bare_place" none "bare_place" "bare_place" s_bare_place [] [], dfn "carries" none "carries" "carries" s_carries [] [], dfn "multiplied" none "multiplied" "multiplied" s_multiplied [] [], dfn "Fountain" (some "__init__") "__init__" "Fountain.__init__" s_Fountain___init__ [.non] [], dfn "Fountain" (some "__eq__") "__eq__" "Fountain.__eq__" s_Fountain___eq__ [] [], dfn "Fountain" (some "__repr__") "__repr__" "Fountain.__repr__" s_Fountain___repr__ [] [], dfn "Fountain" (some "__len__") "__len__" "Fountain.__len__" s_Fountain___len__ [] [], dfn "Fountain" (some "__getitem__") "__getitem__" "Fountain.__getitem__" s_Fountain___getitem__ [] [], dfn "Fountain" (some "__contains__") "__contains__" "Fountain.__contains__" s_Fountain___contains__ [] [], dfn "Fountain" (some "__add__") "__add__" "Fountain.__add__" s_Fountain___add__ [] [], dfn "Fountain" (some "__sub__") "__sub__" "Fountain.__sub__" s_Fountain___sub__ [] [], dfn "Fountain" (some "__mul__") "__mul__" "Fountain.__mul__" s_Fountain___mul__ [] [], dfn "Fountain" (some "__floordiv__") "__floordiv__" "Fountain.__floordiv__" s_Fountain___floordiv__ [] [], dfn "Fountain" (some "at") "at" "Fountain.at" s_Fountain_at [] [], dfn "Fountain" (some "put") "put" "Fountain.put" s_Fountain_put [] [], dfn "need_open" none "need_open" "need_open" s_need_open [] [], dfn "shared_tail" none "shared_tail" "shared_tail" s_shared_tail [] [], dfn "open_branches" none "open_branches" "open_branches" s_open_branches [] [], dfn "word_and_ends" none "word_and_ends" "word_and_ends" s_word_and_ends [] []] : List DefD) ++ ([dfn "word_of" none "word_of" "word_of" s_word_of [] [], dfn "uniform" none "uniform" "uniform" s_uniform [] [], dfn "trimmed" none "trimmed" "trimmed" s_trimmed [] [], dfn "below" none "below" "below" s_below [] [], dfn "decided" none "decided" "decided" s_decided [] [], dfn "joined" none "joined" "joined" s_joined [] [], dfn "ended" none "ended" "ended" s_ended [] [], dfn "started" none "started" "started" s_started [] [], dfn "named" none "named" "named" s_named [] [], dfn "Kind" (some "__init__") "__init__" "Kind.__init__" s_Kind___init__ [] [], dfn "Kind" (some "__eq__") "__eq__" "Kind.__eq__" s_Kind___eq__ [] [], dfn "Kind" (some "__or__") "__or__" "Kind.__or__" s_Kind___or__ [] [], dfn "Kind" (some "__and__") "__and__" "Kind.__and__" s_Kind___and__ [] [], dfn "Kind" (some "__sub__") "__sub__" "Kind.__sub__" s_Kind___sub__ [] [], dfn "Kind" (some "__xor__") "__xor__" "Kind.__xor__" s_Kind___xor__ [] [], dfn "Kind" (some "__mul__") "__mul__" "Kind.__mul__" s_Kind___mul__ [] [], dfn "Kind" (some "__floordiv__") "__floordiv__" "Kind.__floordiv__" s_Kind___floordiv__ [] [], dfn "Kind" (some "form") "form" "Kind.form" s_Kind_form [] [], dfn "_law_feed" none "_law_feed" "_law_feed" s__law_feed [] [], dfn "_law_draw" none "_law_draw" "_law_draw" s__law_draw [] [], dfn "_law_mixed" none "_law_mixed" "_law_mixed" s__law_mixed [] [], dfn "_law_norm" none "_law_norm" "_law_norm" s__law_norm [] [], dfn "_law_size" none "_law_size" "_law_size" s__law_size [] [], dfn "_law_grown" none "_law_grown" "_law_grown" s__law_grown [] [], dfn "_law_open" none "_law_open" "_law_open" s__law_open [] [], dfn "_law_closed" none "_law_closed" "_law_closed" s__law_closed [] [], dfn "_law_refused" none "_law_refused" "_law_refused" s__law_refused [] [], dfn "law" none "law" "law" s_law [] []] : List DefD)
def fa : List Fa := ([.glo "Fountain", .cls "Fountain", .noat "Fountain" "written", .noat "Fountain" "branches", .noat "Fountain" "numbers", .glo "Kind", .cls "Kind", .noat "Kind" "node", .int "MOST" 5000, .int "DEEPEST" 120, .str "JET_TEXT" "o", .glo "Closed", .glo "TooLarge", .noat "TooLarge" "pieces", .glo "TooDeep", .noat "TooDeep" "basins", .glo "check_numbers", .glo "basin_numbers", .glo "product_numbers", .glo "parsed", .glo "made", .glo "allowed", .glo "grafted", .glo "cut", .glo "bare_place", .glo "carries", .glo "multiplied", .mkr "Fountain", .meth "Fountain" "__eq__", .meth "Fountain" "__repr__"] : List Fa) ++ ([.meth "Fountain" "__len__", .meth "Fountain" "__getitem__", .meth "Fountain" "__contains__", .meth "Fountain" "__add__", .meth "Fountain" "__sub__", .meth "Fountain" "__mul__", .meth "Fountain" "__floordiv__", .meth "Fountain" "at", .meth "Fountain" "put", .glo "need_open", .glo "shared_tail", .glo "open_branches", .glo "word_and_ends", .glo "word_of", .glo "uniform", .glo "trimmed", .glo "below", .glo "decided", .glo "joined", .glo "ended", .glo "started", .glo "named", .mkr "Kind", .meth "Kind" "__eq__", .meth "Kind" "__or__", .meth "Kind" "__and__", .meth "Kind" "__sub__", .meth "Kind" "__xor__", .meth "Kind" "__mul__", .meth "Kind" "__floordiv__"] : List Fa) ++ ([.meth "Kind" "form", .glo "_law_feed", .glo "_law_draw", .glo "_law_mixed", .glo "_law_norm", .glo "_law_size", .glo "_law_grown", .glo "_law_open", .glo "_law_closed", .glo "_law_refused", .glo "law", .glo "JetError", .glo "Endless", .glo "NoDivision", .free "NotImplemented", .free "TypeError", .free "abs", .free "all", .free "any", .free "bool", .free "enumerate", .free "int", .free "isinstance", .free "len", .free "list", .free "max", .free "min", .free "range", .free "sorted", .free "sum"] : List Fa) ++ ([.free "tuple"] : List Fa)
def tf : List Defn := ([("made", none)] : List Defn)
def fx : List FxD := ([⟨fun K => cgAd K ("Fountain", "basin"), "basin", "Fountain.basin", defArgs s_Fountain_basin, defBody s_Fountain_basin, defScope s_Fountain_basin⟩, ⟨fun K => cgAd K ("Fountain", "spray"), "spray", "Fountain.spray", defArgs s_Fountain_spray, defBody s_Fountain_spray, defScope s_Fountain_spray⟩, ⟨fun K => cgAd K ("Fountain", "product"), "product", "Fountain.product", defArgs s_Fountain_product, defBody s_Fountain_product, defScope s_Fountain_product⟩, ⟨fun K => gAd K ("Fountain", "text"), "text", "Fountain.text", defArgs s_Fountain_text, defBody s_Fountain_text, defScope s_Fountain_text⟩, ⟨fun K => gAd K ("Fountain", "parts"), "parts", "Fountain.parts", defArgs s_Fountain_parts, defBody s_Fountain_parts, defScope s_Fountain_parts⟩, ⟨fun K => gAd K ("Fountain", "size"), "size", "Fountain.size", defArgs s_Fountain_size, defBody s_Fountain_size, defScope s_Fountain_size⟩, ⟨fun K => gAd K ("Fountain", "jets"), "jets", "Fountain.jets", defArgs s_Fountain_jets, defBody s_Fountain_jets, defScope s_Fountain_jets⟩, ⟨fun K => gAd K ("Fountain", "depth"), "depth", "Fountain.depth", defArgs s_Fountain_depth, defBody s_Fountain_depth, defScope s_Fountain_depth⟩, ⟨fun K => gAd K ("Fountain", "longest"), "longest", "Fountain.longest", defArgs s_Fountain_longest, defBody s_Fountain_longest, defScope s_Fountain_longest⟩, ⟨fun K => gAd K ("Fountain", "shortest"), "shortest", "Fountain.shortest", defArgs s_Fountain_shortest, defBody s_Fountain_shortest, defScope s_Fountain_shortest⟩, ⟨fun K => gAd K ("Fountain", "is_open"), "is_open", "Fountain.is_open", defArgs s_Fountain_is_open, defBody s_Fountain_is_open, defScope s_Fountain_is_open⟩, ⟨fun K => gAd K ("Fountain", "is_jet"), "is_jet", "Fountain.is_jet", defArgs s_Fountain_is_jet, defBody s_Fountain_is_jet, defScope s_Fountain_is_jet⟩, ⟨fun K => cgAd K ("Kind", "ending"), "ending", "Kind.ending", defArgs s_Kind_ending, defBody s_Kind_ending, defScope s_Kind_ending⟩, ⟨fun K => cgAd K ("Kind", "of"), "of", "Kind.of", defArgs s_Kind_of, defBody s_Kind_of, defScope s_Kind_of⟩, ⟨fun K => cgAd K ("Kind", "every"), "every", "Kind.every", defArgs s_Kind_every, defBody s_Kind_every, defScope s_Kind_every⟩, ⟨fun K => cgAd K ("Kind", "none"), "none", "Kind.none", defArgs s_Kind_none, defBody s_Kind_none, defScope s_Kind_none⟩] : List FxD)
def prL : List (Str × Str) := ([("Fountain", "text"), ("Fountain", "parts"), ("Fountain", "size"), ("Fountain", "jets"), ("Fountain", "depth"), ("Fountain", "longest"), ("Fountain", "shortest"), ("Fountain", "is_open"), ("Fountain", "is_jet")] : List (Str × Str))
def cmL : List (Str × Str) := ([("Fountain", "basin"), ("Fountain", "spray"), ("Fountain", "product"), ("Kind", "ending"), ("Kind", "of"), ("Kind", "every"), ("Kind", "none")] : List (Str × Str))
def erL : List Str := (["Closed", "TooLarge", "TooDeep"] : List Str)
def bsL : List Str := (["JetError"] : List Str)
def ktL : List (Str × Str × Bool) := ([("Closed", "Closed", true), ("Closed", "Endless", false), ("Closed", "NoDivision", false)] : List (Str × Str × Bool))
def emL : List (Str × Str × Bool) := ([("Closed", "JetError", true)] : List (Str × Str × Bool))
def xtL : List (PySem.W.Frag → Bool) := [fun K => decide (¬ (He.ga K "Kind" = He.ga K "Fountain")), fun K => decide (PySem.W.findIn K (.ref (He.ga K "Kind")) "__rmul__" = some none), fun K => decide (PySem.W.findIn K (.ref (He.ga K "Kind")) "__rfloordiv__" = some none), fun K => decide (PySem.W.findIn K (.ref (He.ga K "Fountain")) "__rmul__" = some none), fun K => decide (PySem.W.findIn K (.ref (He.ga K "Fountain")) "__rfloordiv__" = some none), fun K => decide (PySem.W.subIn K (.ref (He.ga K "Fountain")) (.ref (He.ga K "Kind")) = some false), fun K => decide (clsX K "Kind" = true)]
def ex (K : PySem.W.Frag) : Bool := (xtL.all fun f => f K) && ((clsX K "Fountain" && ((prL.all fun p => propB K p) && ((cmL.all fun p => cmB K p) && ((erL.all fun x => errB K x) && ((bsL.all fun x => baseB K x) && ((ktL.all fun q => kitB K q) && (emL.all fun q => exmB K q))))))))
theorem exs {K : PySem.W.Frag} {h : Heap} (c : SaysE fa fn tf ex fx h K) : clsX K "Fountain" = true ∧ (prL.all fun p => propB K p) = true ∧ (cmL.all fun p => cmB K p) = true ∧ (erL.all fun x => errB K x) = true ∧ (bsL.all fun x => baseB K x) = true ∧ (ktL.all fun q => kitB K q) = true ∧ (emL.all fun q => exmB K q) = true := by
  have more := (ba c.more).2
  obtain ⟨z1, z⟩ := ba more
  obtain ⟨z2, z⟩ := ba z
  obtain ⟨z3, z⟩ := ba z
  obtain ⟨z4, z⟩ := ba z
  obtain ⟨z5, z⟩ := ba z
  obtain ⟨z6, z7⟩ := ba z
  exact ⟨z1, z2, z3, z4, z5, z6, z7⟩
abbrev R : PySem.W.OpenRow := PySem.W.OpenLaw.row PySem.Challenge.rw_jetworks_k39_kinds_refuse_closed_ones
abbrev hk : PySem.W.Hook := hookE 5 fa fn tf ex fx
def ob (s : PySem.W.SharedT) : AlE := obsE 5 fa fn tf ex fx (HandSHeadRun.getT s)
theorem ob_eq (s : PySem.W.SharedT) : ob s = hk.obs s.abs := obsE_eq (HandSHeadRun.getT_eq s)
def loose : List Str := (["_wall", "__name__", "JetError", "NoText", "NoBasin", "NoBranch", "NoPlace", "Closed", "TooLarge", "TooDeep", "Endless", "NoDivision", "NoDifference", "NoQuotient", "MOST", "DEEPEST", "JET_TEXT", "check_numbers", "basin_numbers", "product_numbers", "parsed", "made", "allowed", "grafted", "cut", "bare_place", "carries", "power", "multiplied", "Fountain"] : List Str) ++ (["need_open", "shared_tail", "open_branches", "word_and_ends", "word_of", "uniform", "trimmed", "below", "decided", "joined", "opposite", "ended", "started", "named", "free_prime", "member", "Kind", "_law_feed", "_law_draw", "_law_mixed", "_law_norm", "_law_size", "_law_grown", "_law_open", "_law_closed", "_law_refused"] : List Str)
theorem run (w : World) : HandSHeadRun.RunEq R (PySem.W.view R.prog [60]) hk ob 200000 loose w := by
  intro os
  kernel_rfl
end JW
namespace JW
theorem grf_assoc (p q : T) : ∀ t : T, T.grf p (T.grf q t) = T.grf (T.grf p q) t := by
  refine T.ind' rfl fun l ih => ?_
  have e : l.map (T.grf p ∘ T.grf q) = l.map (T.grf (T.grf p q)) := List.map_congr_left fun t ht => ih t ht
  rw [grf_bas, grf_bas, grf_bas, sortT_congr ((sortT_perm (l.map (T.grf q))).map (T.grf p)), List.map_map, e]
theorem grf_jet : ∀ t : T, Can t → T.grf .jet t = t := by
  refine T.ind' (fun _ => rfl) fun l ih hc => ?_
  have e : l.map (T.grf .jet) = l.map id := List.map_congr_left fun t ht => ih t ht (canL_iff.mp hc.2 t ht)
  rw [grf_bas, e, List.map_id, sortT_of hc.1]
theorem fold_grf : ∀ (b : List T) (f : T), Can f → (∀ t ∈ b, Can t) → b.foldl (fun f t => T.grf t f) f = T.grf (prodT b) f
  | [], f, hf, _ => (grf_jet f hf).symm
  | t :: r, f, hf, h => by
    have hr : ∀ u ∈ r, Can u := fun u hu => h u (List.mem_cons_of_mem _ hu)
    have ht := h t List.mem_cons_self
    show r.foldl (fun f t => T.grf t f) (T.grf t f) = T.grf (r.foldl (fun f t => T.grf t f) t) f
    rw [fold_grf r _ (grf_can ht f) hr, fold_grf r t ht hr, grf_assoc]
theorem prod_cons {t : T} {r : List T} (h : ∀ u ∈ t :: r, Can u) : prodT (t :: r) = T.grf (prodT r) t :=
  fold_grf r t (h t List.mem_cons_self) fun u hu => h u (List.mem_cons_of_mem _ hu)
theorem prod_app {a b : List T} (ha : ∀ u ∈ a, Can u) (hb : ∀ u ∈ b, Can u) : prodT (a ++ b) = T.grf (prodT b) (prodT a) := by
  unfold prodT
  rw [List.foldl_append]
  exact fold_grf b _ (prod_can ha) hb
theorem prod_open {l : List T} (h : ∀ t ∈ l, t.jts ≠ 0) : (prodT l).jts ≠ 0 := by
  have go : ∀ (l : List T) (f : T), f.jts ≠ 0 → (∀ t ∈ l, t.jts ≠ 0) → (l.foldl (fun f t => T.grf t f) f).jts ≠ 0 := by
    intro l
    induction l with
    | nil => intro f hf _; exact hf
    | cons t r ih =>
      intro f hf hl
      refine ih _ ?_ fun u hu => hl u (List.mem_cons_of_mem _ hu)
      rw [grf_jts]
      exact fun z => (Nat.mul_eq_zero.mp z).elim hf (hl t List.mem_cons_self)
  exact go l .jet (by decide) h
def lcp : List T → List T → List T
  | x :: a, y :: b => if x = y then x :: lcp a b else []
  | _, _ => []
theorem lcp_l : ∀ a b : List T, lcp a b <+: a
  | [], _ => List.nil_prefix
  | x :: a, [] => List.nil_prefix
  | x :: a, y :: b => by
    unfold lcp
    split
    · exact List.cons_prefix_cons.mpr ⟨rfl, lcp_l a b⟩
    · exact List.nil_prefix
theorem lcp_r : ∀ a b : List T, lcp a b <+: b
  | [], _ => List.nil_prefix
  | x :: a, [] => List.nil_prefix
  | x :: a, y :: b => by
    unfold lcp
    split
    · rename_i e
      exact List.cons_prefix_cons.mpr ⟨e, lcp_r a b⟩
    · exact List.nil_prefix
theorem lcp_max : ∀ x a b : List T, x <+: a → x <+: b → x <+: lcp a b
  | [], _, _, _, _ => List.nil_prefix
  | x :: r, [], _, h, _ => absurd (List.prefix_nil.mp h) (List.cons_ne_nil _ _)
  | x :: r, y :: a, [], _, h => absurd (List.prefix_nil.mp h) (List.cons_ne_nil _ _)
  | x :: r, y :: a, z :: b, h1, h2 => by
    obtain ⟨e1, h1⟩ := List.cons_prefix_cons.mp h1
    obtain ⟨e2, h2⟩ := List.cons_prefix_cons.mp h2
    unfold lcp
    rw [if_pos (e1.symm.trans e2)]
    exact List.cons_prefix_cons.mpr ⟨e1, lcp_max r a b h1 h2⟩
def lcpL : List (List T) → List T
  | [] => []
  | w :: r => r.foldl lcp w
theorem lcpF_pre : ∀ (r : List (List T)) (w : List T), r.foldl lcp w <+: w ∧ ∀ v ∈ r, r.foldl lcp w <+: v
  | [], w => ⟨List.prefix_refl _, fun _ h => nomatch h⟩
  | v :: r, w => by
    obtain ⟨h1, h2⟩ := lcpF_pre r (lcp w v)
    refine ⟨h1.trans (lcp_l w v), fun u hu => ?_⟩
    rcases List.mem_cons.mp hu with e | e
    · exact e ▸ h1.trans (lcp_r w v)
    · exact h2 u e
theorem lcpF_max {x : List T} : ∀ (r : List (List T)) (w : List T), x <+: w → (∀ v ∈ r, x <+: v) → x <+: r.foldl lcp w
  | [], w, h, _ => h
  | v :: r, w, h, hr => lcpF_max r _ (lcp_max x w v h (hr v List.mem_cons_self)) fun u hu => hr u (List.mem_cons_of_mem _ hu)
def lcsL (ws : List (List T)) : List T := (lcpL (ws.map List.reverse)).reverse
theorem lcs_suf {ws : List (List T)} {w : List T} (h : w ∈ ws) : lcsL ws <:+ w := by
  have h1 : lcpL (ws.map List.reverse) <+: w.reverse := by
    have hm : w.reverse ∈ ws.map List.reverse := List.mem_map_of_mem h
    cases hw : ws.map List.reverse with
    | nil => rw [hw] at hm; cases hm
    | cons v r =>
      rw [hw] at hm
      rcases List.mem_cons.mp hm with e | e
      · exact e ▸ (lcpF_pre r v).1
      · exact (lcpF_pre r v).2 _ e
  have h2 := List.reverse_suffix.mpr h1
  rw [List.reverse_reverse] at h2
  exact h2
theorem lcs_max {ws : List (List T)} {x : List T} (hn : ws ≠ []) (h : ∀ w ∈ ws, x <:+ w) : x <:+ lcsL ws := by
  have h1 : x.reverse <+: lcpL (ws.map List.reverse) := by
    have hm : ∀ v ∈ ws.map List.reverse, x.reverse <+: v := fun v hv => by
      obtain ⟨w, hw, e⟩ := List.mem_map.mp hv
      exact e ▸ List.reverse_prefix.mpr (h w hw)
    cases hw : ws.map List.reverse with
    | nil => exact absurd (List.map_eq_nil_iff.mp hw) hn
    | cons v r =>
      rw [hw] at hm
      exact lcpF_max r v (hm v List.mem_cons_self) fun u hu => hm u (List.mem_cons_of_mem _ hu)
  have h2 := List.reverse_suffix.mpr h1
  rw [List.reverse_reverse] at h2
  exact h2
theorem suf_anti {a b : List T} (h1 : a <:+ b) (h2 : b <:+ a) : a = b := h1.eq_of_length (Nat.le_antisymm h1.length_le h2.length_le)
theorem lcs_eq {ws : List (List T)} {s : List T} (hn : ws ≠ []) (h1 : ∀ w ∈ ws, s <:+ w) (h2 : ∀ x, (∀ w ∈ ws, x <:+ w) → x <:+ s) : lcsL ws = s :=
  suf_anti (h2 _ fun _ h => lcs_suf h) (lcs_max hn h1)
theorem lcs_mem {ws vs : List (List T)} (hn : ws ≠ []) (h : ∀ w, w ∈ ws ↔ w ∈ vs) : lcsL ws = lcsL vs := by
  have hv : vs ≠ [] := fun z => by
    cases ws with
    | nil => exact hn rfl
    | cons w r =>
      have := (h w).mp List.mem_cons_self
      rw [z] at this
      cases this
  exact lcs_eq hn (fun w hw => lcs_suf ((h w).mp hw)) fun x hx => lcs_max hv fun w hw => hx w ((h w).mpr hw)
theorem lcs_app {ws : List (List T)} (hn : ws ≠ []) (x : List T) : lcsL (ws.map (· ++ x)) = lcsL ws ++ x := by
  refine lcs_eq (fun z => hn (List.map_eq_nil_iff.mp z)) (fun w hw => ?_) fun y hy => ?_
  · obtain ⟨v, hv, e⟩ := List.mem_map.mp hw
    obtain ⟨t, ht⟩ := lcs_suf hv
    exact ⟨t, by rw [← e, ← ht, List.append_assoc]⟩
  · have hy2 : ∀ w ∈ ws, y <:+ w ++ x := fun w hw => hy _ (List.mem_map_of_mem (f := (· ++ x)) hw)
    by_cases hl : y.length ≤ x.length
    · cases ws with
      | nil => exact absurd rfl hn
      | cons w r =>
        have h1 : y <:+ x := List.suffix_of_suffix_length_le (hy2 w List.mem_cons_self) (List.suffix_append _ _) hl
        exact h1.trans (List.suffix_append _ _)
    · obtain ⟨z, rfl⟩ : ∃ z, z ++ x = y := by
        cases ws with
        | nil => exact absurd rfl hn
        | cons w r => exact List.suffix_of_suffix_length_le (List.suffix_append w _) (hy2 w List.mem_cons_self) (by omega)
      have h1 : z <:+ lcsL ws := lcs_max hn fun w hw => by
        obtain ⟨t, ht⟩ := hy2 w hw
        exact ⟨t, List.append_cancel_right (by rw [List.append_assoc]; exact ht)⟩
      obtain ⟨t, ht⟩ := h1
      exact ⟨t, by rw [← ht, List.append_assoc]⟩
mutual
def T.word : T → List T
  | .jet => []
  | .bas l => cutT (prodT (lcsL (wordsL l))) (.bas l) :: lcsL (wordsL l)
def wordsL : List T → List (List T)
  | [] => []
  | t :: r => if t.jts = 0 then wordsL r else t.word :: wordsL r
end
theorem mem_words {w : List T} : ∀ {l : List T}, w ∈ wordsL l ↔ ∃ t ∈ l, t.jts ≠ 0 ∧ t.word = w
  | [] => ⟨fun h => (nomatch h), fun ⟨_, h, _⟩ => (nomatch h)⟩
  | t :: r => by
    show w ∈ (if t.jts = 0 then wordsL r else t.word :: wordsL r) ↔ _
    split
    · rename_i z
      rw [mem_words]
      refine ⟨fun ⟨u, hu, h⟩ => ⟨u, List.mem_cons_of_mem _ hu, h⟩, fun ⟨u, hu, h1, h2⟩ => ?_⟩
      rcases List.mem_cons.mp hu with e | e
      · exact absurd (e ▸ z) h1
      · exact ⟨u, e, h1, h2⟩
    · rename_i z
      rw [List.mem_cons, mem_words]
      constructor
      · rintro (e | ⟨u, hu, h⟩)
        · exact ⟨t, List.mem_cons_self, z, e.symm⟩
        · exact ⟨u, List.mem_cons_of_mem _ hu, h⟩
      · rintro ⟨u, hu, h1, h2⟩
        rcases List.mem_cons.mp hu with e | e
        · exact .inl (by rw [← e, h2])
        · exact .inr ⟨u, e, h1, h2⟩
theorem open_branch : ∀ {l : List T}, jtsL l ≠ 0 → ∃ t ∈ l, t.jts ≠ 0
  | [], h => absurd rfl h
  | t :: r, h => by
    by_cases z : t.jts = 0
    · have h2 : jtsL r ≠ 0 := fun z2 => h (by show t.jts + jtsL r = 0; omega)
      obtain ⟨u, hu, hz⟩ := open_branch h2
      exact ⟨u, List.mem_cons_of_mem _ hu, hz⟩
    · exact ⟨t, List.mem_cons_self, z⟩
theorem words_ne {l : List T} (h : jtsL l ≠ 0) : wordsL l ≠ [] := fun z => by
  obtain ⟨t, ht, hj⟩ := open_branch h
  have := (mem_words (w := t.word)).mpr ⟨t, ht, hj, rfl⟩
  rw [z] at this
  cases this
def Op (t : T) : Prop := Can t ∧ t.jts ≠ 0
theorem cut_part {l : List T} (hc : Can (.bas l)) (ho : jtsL l ≠ 0) (ih : ∀ t ∈ l, Op t → prodT t.word = t ∧ ∀ q ∈ t.word, Op q) :
    (∀ q ∈ lcsL (wordsL l), Op q) ∧ Op (cutT (prodT (lcsL (wordsL l))) (.bas l)) ∧ T.grf (prodT (lcsL (wordsL l))) (cutT (prodT (lcsL (wordsL l))) (.bas l)) = .bas l ∧ T.bas l ≠ prodT (lcsL (wordsL l)) := by
  obtain ⟨t0, ht0, hj0⟩ := open_branch ho
  have hcl := canL_iff.mp hc.2
  have hs : ∀ t ∈ l, t.jts ≠ 0 → lcsL (wordsL l) <:+ t.word := fun t ht hj => lcs_suf (mem_words.mpr ⟨t, ht, hj, rfl⟩)
  have he : ∀ q ∈ lcsL (wordsL l), Op q := fun q hq => (ih t0 ht0 ⟨hcl t0 ht0, hj0⟩).2 q ((hs t0 ht0 hj0).subset hq)
  generalize lcsL (wordsL l) = e at hs he ⊢
  have hE : Can (prodT e) := prod_can fun q hq => (he q hq).1
  have hEo : (prodT e).jts ≠ 0 := prod_open fun q hq => (he q hq).2
  have hp : ∀ t ∈ l, t.jts ≠ 0 → ∃ v, Op v ∧ t = T.grf (prodT e) v := fun t ht hj => by
    obtain ⟨h1, h2⟩ := ih t ht ⟨hcl t ht, hj⟩
    obtain ⟨v, hv⟩ := hs t ht hj
    have hvo : ∀ q ∈ v, Op q := fun q hq => h2 q (hv ▸ List.mem_append_left _ hq)
    refine ⟨prodT v, ⟨prod_can fun q hq => (hvo q hq).1, prod_open fun q hq => (hvo q hq).2⟩, ?_⟩
    rw [← prod_app (fun q hq => (hvo q hq).1) fun q hq => (he q hq).1, hv, h1]
  have hb : ∀ t ∈ l, Can (cutT (prodT e) t) ∧ T.grf (prodT e) (cutT (prodT e) t) = t := fun t ht => by
    by_cases hj : t.jts = 0
    · have hne : t ≠ prodT e := fun z => hEo (by rw [← z]; exact hj)
      rw [cut_closed hne hj]
      exact ⟨hcl t ht, grf_closed _ _ (hcl t ht) hj⟩
    · obtain ⟨v, hv, ev⟩ := hp t ht hj
      have h1 : cutT (prodT e) t = v := by
        rw [ev]
        exact cut_grf (Nat.pos_of_ne_zero hEo) v hv.1
      rw [h1]
      exact ⟨hv.1, ev.symm⟩
  have hne : T.bas l ≠ prodT e := fun z => by
    obtain ⟨v, hv, ev⟩ := hp t0 ht0 hj0
    have h1 := size_mem ht0
    have h2 := grf_size (prodT e) v
    have h3 := jts_le v
    have h4 : 1 * (prodT e).size ≤ v.jts * (prodT e).size := Nat.mul_le_mul_right _ (Nat.pos_of_ne_zero hv.2)
    rw [← ev] at h2
    rw [z] at h1
    omega
  have hg : T.grf (prodT e) (cutT (prodT e) (.bas l)) = .bas l := by
    rw [cut_open hne ho, grf_bas, sortT_congr ((sortT_perm (l.map (cutT (prodT e)))).map (T.grf (prodT e))), List.map_map]
    have em : l.map (T.grf (prodT e) ∘ cutT (prodT e)) = l.map id := List.map_congr_left fun t ht => (hb t ht).2
    rw [em, List.map_id, sortT_of hc.1]
  refine ⟨he, ⟨?_, fun z => ?_⟩, hg, hne⟩
  · rw [cut_open hne ho]
    refine can_bas (canL_iff.mpr fun t ht => ?_)
    obtain ⟨u, hu, eu⟩ := List.mem_map.mp ht
    exact eu ▸ (hb u hu).1
  · have h1 := grf_jts (prodT e) (cutT (prodT e) (.bas l))
    rw [hg, z, Nat.zero_mul] at h1
    exact ho h1
theorem word_prod : ∀ t : T, Op t → prodT t.word = t ∧ ∀ q ∈ t.word, Op q := by
  refine T.ind' (fun _ => ⟨rfl, fun _ h => nomatch h⟩) fun l ih h => ?_
  obtain ⟨h1, h2, h3, _⟩ := cut_part h.1 h.2 ih
  have ha : ∀ q ∈ (T.bas l).word, Op q := fun q hq => by
    rcases List.mem_cons.mp (show q ∈ cutT (prodT (lcsL (wordsL l))) (.bas l) :: lcsL (wordsL l) from hq) with e | e
    · exact e ▸ h2
    · exact h1 q e
  refine ⟨?_, ha⟩
  show prodT (cutT (prodT (lcsL (wordsL l))) (.bas l) :: lcsL (wordsL l)) = _
  rw [prod_cons fun q hq => (ha q hq).1, h3]
theorem word_part {l : List T} (h : Op (.bas l)) : (∀ q ∈ lcsL (wordsL l), Op q) ∧ Op (cutT (prodT (lcsL (wordsL l))) (.bas l)) ∧ T.grf (prodT (lcsL (wordsL l))) (cutT (prodT (lcsL (wordsL l))) (.bas l)) = .bas l ∧ T.bas l ≠ prodT (lcsL (wordsL l)) :=
  cut_part h.1 h.2 fun t _ => word_prod t
theorem word_grf {p : T} (hp : Op p) : ∀ t : T, Op t → (T.grf p t).word = t.word ++ p.word := by
  refine T.ind' (fun _ => rfl) fun l ih h => ?_
  have hpp := (word_prod p hp).1
  have hpw := (word_prod p hp).2
  have hcl := canL_iff.mp h.1.2
  obtain ⟨h1, h2, h3, h4⟩ := word_part h
  have hne := words_ne h.2
  have hw : lcsL (wordsL (sortT (l.map (T.grf p)))) = lcsL (wordsL l) ++ p.word := by
    rw [← lcs_app hne]
    refine (lcs_mem (fun z => hne (List.map_eq_nil_iff.mp z)) fun w => ?_).symm
    rw [mem_words, List.mem_map]
    constructor
    · rintro ⟨v, hv, rfl⟩
      obtain ⟨t, ht, hj, rfl⟩ := mem_words.mp hv
      refine ⟨T.grf p t, (sortT_perm _).mem_iff.mpr (List.mem_map_of_mem ht), ?_, ih t ht ⟨hcl t ht, hj⟩⟩
      rw [grf_jts]
      exact fun z => (Nat.mul_eq_zero.mp z).elim hj hp.2
    · rintro ⟨u, hu, hj, rfl⟩
      obtain ⟨t, ht, rfl⟩ := List.mem_map.mp ((sortT_perm _).mem_iff.mp hu)
      rw [grf_jts] at hj
      have hj2 : t.jts ≠ 0 := fun z => hj (by rw [z, Nat.zero_mul])
      exact ⟨t.word, mem_words.mpr ⟨t, ht, hj2, rfl⟩, (ih t ht ⟨hcl t ht, hj2⟩).symm⟩
  rw [grf_bas]
  show cutT (prodT (lcsL (wordsL (sortT (l.map (T.grf p)))))) (.bas (sortT (l.map (T.grf p)))) :: lcsL (wordsL (sortT (l.map (T.grf p)))) = cutT (prodT (lcsL (wordsL l))) (.bas l) :: lcsL (wordsL l) ++ p.word
  rw [hw, prod_app (fun q hq => (h1 q hq).1) fun q hq => (hpw q hq).1, hpp, ← grf_bas]
  have e1 : T.grf p (.bas l) = T.grf (T.grf p (prodT (lcsL (wordsL l)))) (cutT (prodT (lcsL (wordsL l))) (.bas l)) := by
    rw [← grf_assoc, h3]
  rw [e1, cut_grf ?_ _ h2.1]
  · rfl
  rw [grf_jts]
  exact Nat.mul_pos (Nat.pos_of_ne_zero (prod_open fun q hq => (h1 q hq).2)) (Nat.pos_of_ne_zero hp.2)
def Prm (q : T) : Prop := q.word = [q]
theorem word_of_primes : ∀ e : List T, (∀ q ∈ e, Op q ∧ Prm q) → (prodT e).word = e
  | [], _ => rfl
  | q :: r, h => by
    have hr : ∀ u ∈ r, Op u ∧ Prm u := fun u hu => h u (List.mem_cons_of_mem _ hu)
    have hq := h q List.mem_cons_self
    have hE : Op (prodT r) := ⟨prod_can fun u hu => (hr u hu).1.1, prod_open fun u hu => (hr u hu).1.2⟩
    rw [prod_cons fun u hu => (h u hu).1.1, word_grf hE q hq.1, word_of_primes r hr, hq.2]
    rfl
theorem word_prime : ∀ t : T, Op t → ∀ q ∈ t.word, Prm q := by
  refine T.ind' (fun _ _ h => nomatch h) fun l ih h => ?_
  obtain ⟨h1, h2, h3, h4⟩ := word_part h
  obtain ⟨t0, ht0, hj0⟩ := open_branch h.2
  have hcl := canL_iff.mp h.1.2
  have hs : lcsL (wordsL l) <:+ t0.word := lcs_suf (mem_words.mpr ⟨t0, ht0, hj0, rfl⟩)
  have he : ∀ q ∈ lcsL (wordsL l), Prm q := fun q hq => ih t0 ht0 ⟨hcl t0 ht0, hj0⟩ q (hs.subset hq)
  have hE : Op (prodT (lcsL (wordsL l))) := ⟨prod_can fun u hu => (h1 u hu).1, prod_open fun u hu => (h1 u hu).2⟩
  have hw : (T.bas l).word = (cutT (prodT (lcsL (wordsL l))) (.bas l)).word ++ lcsL (wordsL l) := by
    have h5 := word_grf hE _ h2
    rw [h3, word_of_primes _ fun q hq => ⟨h1 q hq, he q hq⟩] at h5
    exact h5
  intro q hq
  rcases List.mem_cons.mp (show q ∈ cutT (prodT (lcsL (wordsL l))) (.bas l) :: lcsL (wordsL l) from hq) with e | e
  · have h6 : [cutT (prodT (lcsL (wordsL l))) (.bas l)] ++ lcsL (wordsL l) = (cutT (prodT (lcsL (wordsL l))) (.bas l)).word ++ lcsL (wordsL l) := hw
    rw [e]
    exact (List.append_cancel_right h6).symm
  · exact he q e
end JW
namespace JW
open PySem PySem.Spec PyProof.Rows L2
structure CallS (P : Program) (w : World) (K : PySem.W.Frag) (mg : Str → Option Value) (base : Heap) (CX : CXT) (k : Nat) (x : Str) (sp : Sp) : Prop where
  ex : ∃ f, mg x = some (.ref f) ∧ PySem.W.keepIn K (.ref f) = true ∧ FnR P w K mg base CX k f sp
structure StarAt (K : PySem.W.Frag) (mg : Str → Option Value) (x qual : Str) (st : Stmt) (ps : List Str) (pv : Str) : Prop where
  ex : ∃ f fd, mg x = some (.ref f) ∧ FunD K x qual (defArgs st) (defBody st) (defScope st) [] [] f fd ∧ ∀ us rest : List Value, us.length = ps.length → bindArgs fd ⟨us ++ rest, []⟩ = (newTuple rest >>= fun t => pure (ps.zip us ++ [(pv, t)]))
def starSp (n : Nat) (sp : Sp) : Sp := fun vs H Q E => ∃ ws rest, vs = ws ++ rest ∧ ws.length = n ∧ rest.length ≤ sizeLine ∧ ∀ p, H p = Option.none → sp (ws ++ [V.ref p]) (upd H p (.tup rest)) Q E
section
variable {P : Program} {w : World} {K : PySem.W.Frag} {mg : Str → Option Value} {base : Heap}
theorem StarAt.ok {x qual : Str} {st : Stmt} {N ps : List Str} {pv : Str} {k : Nat} {sp : Sp} (D : StarAt K mg x qual st ps pv) (S : FnScope N (ps ++ [pv]) (defScope st))
    (hbody : ∀ (f : Addr) (cdv : Value) (A : Around) (outer : List Env) (s : Shared) (H : Hp) (vs : List V) (Q : VK) (E : XK), Room k (A.deeper (envOfC qual (defScope st) s.heap.objs.size f cdv)) → sp vs H Q E →
      ∃ t, PSs (cxOf CX0 P w K mg base N qual (defScope st) f cdv A outer s H E).nox (defBody st) t ∧ t { nx := fun _ H' => Q .non H', rt := Q } (start N vs) H) : CallS P w K mg base CX0 (k + 1) x (starSp ps.length sp) := by
  obtain ⟨f, fd, h1, F, hb⟩ := D.ex
  have hk := F.kp
  obtain ⟨oc, od, dV, kV, doc, pm, an, cdv, ct, osl, rfl, lk, hcd, _, _⟩ := F.ex
  refine ⟨f, h1, hk, StX.fn_star lk hcd S StX.cxUp_none hb fun A outer s H vs Q E hr h => ?_⟩
  obtain ⟨t, h, q⟩ := hbody f cdv A outer s H vs Q E hr h
  exact ⟨t, h.nox, q⟩
end
section
variable {X : Cx} {CX : CXT} {k : Nat} {sp : Sp} {E : XK} {x : Str} {p pos : Pos} {e : Expr} {es : List Expr} {t : TA}
def tCallSt (sp : Sp) (E : XK) (t : TA) : TE := fun σ H Q => t σ H fun vs H1 => sp vs H1 Q E
theorem pe_callSt (C : CallS X.prog X.w X.K X.mg X.base CX k x sp) (hr : Room k X.A) (hg : Gl X x) (hx : Passes CX X E) (ha : PA X (e :: es) t) (hdb : (x == ("__debug__" : Str)) = false := by decide)
    (he : starEach (e :: es) X.env = (false, eval e X.env) :: starEach es X.env := by rfl) (hpl : (backTo pos (starEach es X.env)).any (·.1) = false := by rfl) : PE X (.Call (.Name x p) (e :: es) [] pos) (tCallSt sp E t) := by
  obtain ⟨f, h1, h2, F⟩ := C.ex
  refine ⟨fun pins s σ H Q I h => ?_⟩
  refine wpAny_Call_Name_kw (ld_glob I hg h1 ?_ hdb)
  refine PySem.W.callWith_K (h₀ := X.base) I.ok.mod.kin h2 (thn (ha.run pos pins s σ H _ I h) fun us s1 ⟨vs, H1, I1, r, q⟩ => ⟨I1.kIn, ?_⟩) he hpl
  exact wpAny_call (run_fnR F hr hx I1 r q)
end
end JW
namespace JW
open PySem PySem.Spec PyProof.Rows L2
theorem pg_tupK {X : Cx} {K : PySem.W.Frag} (hk : X.K = K) {es : List Expr} {k : Nat} {t : TGs} {n : Nat} {pos : Pos} (hc : X.calm = true) (h : PGs X es t)
    (hn : (assignEach es X.env).length = n := by rfl) (hst : (assignEach es X.env).findIdx? (·.1) = none := by rfl) : PG X (.Tuple es k pos) (gTup K n t) := hk ▸ pg_tup hc h hn hst
theorem lc_enumT {K : PySem.W.Frag} {a : Addr} {xs : List V} {g : TG} {tt : TT} {te : TE} {vs : List Nat} {σ : L2.St} {H1 : Hp} {D : Addr} {Qd : Hp → Prop} (Pv : Nat → Hp → Prop) (h0 : Pv 0 (upd H1 D (.lst []))) (hl : ∀ i H, i ≤ xs.length → Pv i H → SqT K H a xs)
    (hs : ∀ i x H T, xs[i]? = some x → Pv i H → H T = none → g (.ref T) (wipe σ vs) (upd H T (.tup [.int (i : Nat), x])) fun σ2 H2 => wipe σ2 vs = wipe σ vs ∧ tt σ2 H2 fun b H3 =>
      if b = true then te σ2 H3 fun y H4 => ∃ acc, H4 D = some (.lst acc) ∧ acc.length < sizeLine ∧ Pv (i + 1) (upd H4 D (.lst (acc ++ [y]))) else Pv (i + 1) H3) (hd : ∀ H, Pv xs.length H → Qd H) :
    ∃ W : Nat → Nat → Hp → Prop, (∃ m, W 0 m (upd H1 D (.lst []))) ∧ ∀ i m H, W i m H →
      ((Itet K a).stop i H ∧ Qd H) ∨ ((Itet K a).go i H ∧ ∃ Nx : Hp → Prop, (∀ H', Nx H' → ∃ m', m' < m ∧ W (i + 1) m' H') ∧ ∀ x H', (Itet K a).yld i H x H' → g x (wipe σ vs) H' fun σ2 H2 => wipe σ2 vs = wipe σ vs ∧ tt σ2 H2 fun b H3 =>
        if b = true then te σ2 H3 fun y H4 => ∃ acc, H4 D = some (.lst acc) ∧ acc.length < sizeLine ∧ Nx (upd H4 D (.lst (acc ++ [y]))) else Nx H3) := by
  refine ⟨fun i m H => m = xs.length - i ∧ i ≤ xs.length ∧ Pv i H, ⟨xs.length, rfl, Nat.zero_le _, h0⟩, ?_⟩
  rintro i m H ⟨rfl, hi, p⟩
  by_cases hlt : i < xs.length
  · refine .inr ⟨⟨xs, xs[i], hl i H hi p, List.getElem?_eq_getElem hlt⟩, Pv (i + 1), fun H' p' => ⟨xs.length - (i + 1), by omega, rfl, hlt, p'⟩, fun v H' hy => ?_⟩
    obtain ⟨T, x, rfl, hT, rfl, hx⟩ := hy
    exact hs i x H T (hx xs (hl i H hi p)) p hT
  · have e : i = xs.length := by omega
    subst e
    exact .inl ⟨⟨xs, hl _ H hi p, rfl⟩, hd H p⟩
def opK (l : List T) (n : Nat) (t : T) : Prop := t.jts ≠ 0 ∧ (n = 0 ∨ l[n - 1]? ≠ some t)
instance (l : List T) (n : Nat) (t : T) : Decidable (opK l n t) := by unfold opK; exact inferInstance
def opN (l : List T) : Nat → List T
  | 0 => []
  | n + 1 => opN l n ++ (match l[n]? with | some t => if opK l n t then [t] else [] | none => [])
def opB (l : List T) : List T := opN l l.length
theorem opN_yes {l : List T} {n : Nat} {t : T} (h : l[n]? = some t) (hk : opK l n t) : opN l (n + 1) = opN l n ++ [t] := by
  show opN l n ++ (match l[n]? with | some t => if opK l n t then [t] else [] | none => []) = _
  rw [h]
  show opN l n ++ (if opK l n t then [t] else []) = _
  rw [if_pos hk]
theorem opN_no {l : List T} {n : Nat} {t : T} (h : l[n]? = some t) (hk : ¬ opK l n t) : opN l (n + 1) = opN l n := by
  show opN l n ++ (match l[n]? with | some t => if opK l n t then [t] else [] | none => []) = _
  rw [h]
  show opN l n ++ (if opK l n t then [t] else []) = _
  rw [if_neg hk, List.append_nil]
theorem opN_step (l : List T) (n : Nat) : opN l (n + 1) = opN l n ∨ ∃ t, l[n]? = some t ∧ t.jts ≠ 0 ∧ opN l (n + 1) = opN l n ++ [t] := by
  cases h : l[n]? with
  | none =>
    refine .inl ?_
    show opN l n ++ (match l[n]? with | some t => if opK l n t then [t] else [] | none => []) = _
    rw [h, List.append_nil]
  | some t =>
    by_cases hk : opK l n t
    · exact .inr ⟨t, rfl, hk.1, opN_yes h hk⟩
    · exact .inl (opN_no h hk)
theorem opN_of {l : List T} {t : T} : ∀ {n : Nat}, t ∈ opN l n → ∃ i, i < n ∧ l[i]? = some t ∧ t.jts ≠ 0
  | 0, h => by cases h
  | n + 1, h => by
    rcases opN_step l n with e | ⟨u, h1, h2, e⟩
    · rw [e] at h
      obtain ⟨i, hi, h3⟩ := opN_of h
      exact ⟨i, by omega, h3⟩
    · rw [e] at h
      rcases List.mem_append.mp h with h | h
      · obtain ⟨i, hi, h3⟩ := opN_of h
        exact ⟨i, by omega, h3⟩
      · rw [List.mem_singleton.mp h]
        exact ⟨n, by omega, h1, h2⟩
theorem opN_mono {l : List T} {t : T} {n : Nat} (h : t ∈ opN l n) : ∀ k, t ∈ opN l (n + k)
  | 0 => h
  | k + 1 => by
    have h1 := opN_mono h k
    show t ∈ opN l (n + k + 1)
    rcases opN_step l (n + k) with e | ⟨u, _, _, e⟩
    · rw [e]; exact h1
    · rw [e]; exact List.mem_append_left _ h1
theorem opN_at {l : List T} {t : T} (hj : t.jts ≠ 0) : ∀ {i : Nat}, l[i]? = some t → t ∈ opN l (i + 1)
  | 0, h => by
    rw [opN_yes h ⟨hj, .inl rfl⟩]
    exact List.mem_append_right _ (List.mem_singleton.mpr rfl)
  | i + 1, h => by
    by_cases e : l[i]? = some t
    · exact opN_mono (opN_at hj e) 1
    · rw [opN_yes h ⟨hj, .inr e⟩]
      exact List.mem_append_right _ (List.mem_singleton.mpr rfl)
theorem opB_mem {l : List T} {t : T} : t ∈ opB l ↔ t ∈ l ∧ t.jts ≠ 0 := by
  constructor
  · intro h
    obtain ⟨i, _, h1, h2⟩ := opN_of h
    exact ⟨List.mem_of_getElem? h1, h2⟩
  · rintro ⟨h, hj⟩
    obtain ⟨i, hi, e⟩ := List.getElem_of_mem h
    have h1 : l[i]? = some t := by rw [← e]; exact List.getElem?_eq_getElem hi
    have h2 := opN_mono (opN_at hj h1) (l.length - (i + 1))
    rw [show i + 1 + (l.length - (i + 1)) = l.length by omega] at h2
    exact h2
theorem opN_len (l : List T) : ∀ n, (opN l n).length ≤ n
  | 0 => Nat.le_refl _
  | n + 1 => by
    have := opN_len l n
    rcases opN_step l n with e | ⟨u, _, _, e⟩
    · rw [e]; omega
    · rw [e, List.length_append, List.length_singleton]; omega
theorem opB_ne {l : List T} (h : jtsL l ≠ 0) : opB l ≠ [] := fun z => by
  obtain ⟨t, ht, hj⟩ := open_branch h
  have := opB_mem.mpr ⟨ht, hj⟩
  rw [z] at this
  cases this
theorem opB_words {l : List T} (h : jtsL l ≠ 0) : lcsL ((opB l).map T.word) = lcsL (wordsL l) := by
  refine lcs_mem (fun z => opB_ne h (List.map_eq_nil_iff.mp z)) fun w => ?_
  rw [List.mem_map, mem_words]
  exact ⟨fun ⟨t, h1, h2⟩ => ⟨t, (opB_mem.mp h1).1, (opB_mem.mp h1).2, h2⟩, fun ⟨t, h1, h2, h3⟩ => ⟨t, opB_mem.mpr ⟨h1, h2⟩, h3⟩⟩
end JW
namespace JW
def endsW (w : List T) : List T := (List.range (w.length + 1)).map fun k => prodT (w.drop (w.length - k))
theorem endsW_len (w : List T) : (endsW w).length = w.length + 1 := by
  unfold endsW
  rw [List.length_map, List.length_range]
theorem drop_suf {e w : List T} (h : e <:+ w) {k : Nat} (hk : k ≤ e.length) : w.drop (w.length - k) = e.drop (e.length - k) := by
  obtain ⟨t, rfl⟩ := h
  rw [List.length_append, List.drop_append, List.drop_of_length_le (by omega), List.nil_append, show t.length + e.length - k - t.length = e.length - k by omega]
theorem endsW_take {e w : List T} (h : e <:+ w) : (endsW w).take (e.length + 1) = endsW e := by
  have hl := h.length_le
  unfold endsW
  rw [← List.map_take, List.take_range, show min (e.length + 1) (w.length + 1) = e.length + 1 by omega]
  refine List.map_congr_left fun k hk => ?_
  rw [drop_suf h (by have := List.mem_range.mp hk; omega)]
theorem endsW_cons (q : T) (e : List T) : endsW (q :: e) = endsW e ++ [prodT (q :: e)] := by
  unfold endsW
  rw [List.length_cons, List.range_succ, List.map_append, List.map_singleton]
  congr 1
  · refine List.map_congr_left fun k hk => ?_
    rw [show e.length + 1 - k = (e.length - k) + 1 by have := List.mem_range.mp hk; omega, List.drop_succ_cons]
  · rw [show e.length + 1 - (e.length + 1) = 0 by omega, List.drop_zero]
theorem endsW_last (e : List T) : (endsW e)[(endsW e).length - 1]? = some (prodT e) := by
  rw [endsW_len]
  unfold endsW
  rw [show e.length + 1 - 1 = e.length by omega, List.getElem?_map, List.getElem?_range (by omega)]
  show some (prodT (e.drop (e.length - e.length))) = _
  rw [Nat.sub_self, List.drop_zero]
end JW
namespace AL
open PySem PySem.Spec PyProof.Rows L2 LamX JW
inductive D where
  | non | bl (b : Bool) | int (i : Int) | str (s : Str) | ref (p : Addr) | ty (n : String) | scr | tree (t : T)
  | tup (l : List D) | obj (C : Addr) (ks : List Str) (ds : List D) | err (C : Addr) (ks : List Str) (ds : List D)
inductive MO where
  | lst (l : List D) | dct (l : List (Key × D)) | ins (C : Addr) (ks : List Str) (ds : List D) | opq (P : HO → Prop) | lsq (P : List D → Prop)
abbrev Store := Addr → Option MO
def sput (L : Store) (p : Addr) (m : MO) : Store := fun q => if q = p then some m else L q
theorem sput_same {L : Store} {p : Addr} {m : MO} : sput L p m p = some m := by unfold sput; rw [if_pos rfl]
theorem sput_ne {L : Store} {p q : Addr} {m : MO} (h : q ≠ p) : sput L p m q = L q := by unfold sput; rw [if_neg h]
theorem sput_sput {L : Store} {p : Addr} {m n : MO} : sput (sput L p m) p n = sput L p n := by
  funext q; unfold sput; split <;> rfl
theorem sput_old {L : Store} {p q : Addr} {m n : MO} (h : L q = some m) (hp : L p = none) : sput L p n q = some m := by
  rw [sput_ne fun e => by rw [e, hp] at h; cases h]
  exact h
structure AC (K : PySem.W.Frag) where
  TT : List (Addr × Str)
  imm : List Str
  scr : Option (Addr × List Int)
def IC {K : PySem.W.Frag} (c : AC K) (C : Addr) : Prop := C = cF K ∨ ∃ x ∈ c.imm, C = He.ga K x
def Imm {K : PySem.W.Frag} (c : AC K) : HO → Prop
  | .tup _ => True
  | .ins C _ _ => IC c C
  | .frz _ _ => True
  | .xd _ => True
  | .ext _ => True
  | _ => False
def Fr {K : PySem.W.Frag} (c : AC K) (H H' : Hp) : Prop := ∀ a o, H a = some o → Imm c o → H' a = some o
section
variable {K : PySem.W.Frag} {c : AC K} {H H1 H' : Hp}
theorem Fr.refl (c : AC K) (H : Hp) : Fr c H H := fun _ _ h _ => h
theorem Fr.trans (a : Fr c H H1) (b : Fr c H1 H') : Fr c H H' := fun p o h i => b p o (a p o h i) i
theorem Fr.same (s : L2.Same H H') : Fr c H H' := fun p o h _ => s p o h
theorem Fr.new {p : Addr} {o : HO} (hp : H p = none) : Fr c H (upd H p o) := fun q u h _ => by
  rw [upd_ne (ne_of_none h hp)]
  exact h
theorem Fr.put {p : Addr} {o u : HO} (hp : H p = some u) (n : ¬ Imm c u) : Fr c H (upd H p o) := fun q v h i => by
  rw [upd_ne fun e => by subst e; rw [hp] at h; cases h; exact n i]
  exact h
theorem Fr.extN (s : ExtN H H') : Fr c H H' := fun p o h i => s p o h fun ps z => by subst z; exact i.elim
end
def ErrO (H : Hp) (a C : Addr) (fs : List (Str × V)) : Prop := ∃ (d : Option Addr) (φ : Heap → Prop), H a = some (.ext φ) ∧ (∀ h, φ h → ∃ o, h.get? a = some o ∧ o.cls = .ref C ∧ o.dict = d ∧ ∃ vs, o.data = .fields vs) ∧
  ((d = none ∧ fs = []) ∨ ∃ dd, d = some dd ∧ (H dd = some (.xd fs) ∨ H dd = some (exd dd fs)))
theorem ErrO.fr {K : PySem.W.Frag} {c : AC K} {H H' : Hp} {a C : Addr} {fs : List (Str × V)} (h : ErrO H a C fs) (s : Fr c H H') : ErrO H' a C fs := by
  obtain ⟨d, φ, e1, e2, e3⟩ := h
  refine ⟨d, φ, s _ _ e1 trivial, e2, ?_⟩
  rcases e3 with e | ⟨dd, e, e4 | e4⟩
  · exact .inl e
  · exact .inr ⟨dd, e, .inl (s _ _ e4 trivial)⟩
  · exact .inr ⟨dd, e, .inr (s _ _ e4 trivial)⟩
mutual
def RepC {K : PySem.W.Frag} (c : AC K) (H : Hp) : D → V → Prop
  | .non, v => v = .non
  | .bl b, v => v = .bl b
  | .int i, v => v = .int i
  | .str s, v => v = .str s
  | .ref p, v => v = .ref p
  | .ty n, v => v = .ty n
  | .scr, v => ∃ a ns, c.scr = some (a, ns) ∧ v = .ref a
  | .tree t, v => Ftn (cF K) H t v
  | .tup l, v => ∃ a vs, v = .ref a ∧ SqT K H a vs ∧ RepCL c H l vs
  | .obj C ks ds, v => ∃ a dx vs, v = .ref a ∧ H a = some (.ins C dx (ks.zip vs)) ∧ IC c C ∧ ks.length = ds.length ∧ RepCL c H ds vs
  | .err C ks ds, v => ∃ a vs, v = .ref a ∧ ErrO H a C (ks.zip vs) ∧ ks.length = ds.length ∧ RepCL c H ds vs
def RepCL {K : PySem.W.Frag} (c : AC K) (H : Hp) : List D → List V → Prop
  | [], vs => vs = []
  | d :: ds, vs => ∃ v r, vs = v :: r ∧ RepC c H d v ∧ RepCL c H ds r
end
structure Rep {K : PySem.W.Frag} (c : AC K) (H : Hp) (d : D) (v : V) : Prop where
  core : RepC c H d v
structure RepL {K : PySem.W.Frag} (c : AC K) (H : Hp) (l : List D) (vs : List V) : Prop where
  core : RepCL c H l vs
section
variable {K : PySem.W.Frag} {c : AC K} {H H1 H' : Hp}
theorem repL_nil {vs : List V} : RepL c H [] vs ↔ vs = [] := ⟨fun h => by have := h.core; simpa only [RepCL] using this, fun h => ⟨by simpa only [RepCL] using h⟩⟩
theorem repL_cons {d : D} {ds : List D} {vs : List V} : RepL c H (d :: ds) vs ↔ ∃ v r, vs = v :: r ∧ Rep c H d v ∧ RepL c H ds r := by
  constructor
  · rintro ⟨h⟩
    have h2 : ∃ v r, vs = v :: r ∧ RepC c H d v ∧ RepCL c H ds r := by simpa only [RepCL] using h
    obtain ⟨v, r, e, h1, h3⟩ := h2
    exact ⟨v, r, e, ⟨h1⟩, ⟨h3⟩⟩
  · rintro ⟨v, r, e, ⟨h1⟩, ⟨h3⟩⟩
    refine ⟨?_⟩
    simp only [RepCL]
    exact ⟨v, r, e, h1, h3⟩
theorem rep_tree {t : T} {v : V} : Rep c H (.tree t) v ↔ Ftn (cF K) H t v := ⟨fun h => by have := h.core; simpa only [RepC] using this, fun h => ⟨by simpa only [RepC] using h⟩⟩
theorem rep_tup {l : List D} {v : V} : Rep c H (.tup l) v ↔ ∃ a vs, v = .ref a ∧ SqT K H a vs ∧ RepL c H l vs := by
  constructor
  · rintro ⟨h⟩
    have h2 : ∃ a vs, v = .ref a ∧ SqT K H a vs ∧ RepCL c H l vs := by simpa only [RepC] using h
    obtain ⟨a, vs, e, h1, h3⟩ := h2
    exact ⟨a, vs, e, h1, ⟨h3⟩⟩
  · rintro ⟨a, vs, e, h1, ⟨h3⟩⟩
    refine ⟨?_⟩
    simp only [RepC]
    exact ⟨a, vs, e, h1, h3⟩
theorem rep_obj {C : Addr} {ks : List Str} {ds : List D} {v : V} : Rep c H (.obj C ks ds) v ↔ ∃ a dx vs, v = .ref a ∧ H a = some (.ins C dx (ks.zip vs)) ∧ IC c C ∧ ks.length = ds.length ∧ RepL c H ds vs := by
  constructor
  · rintro ⟨h⟩
    have h2 : ∃ a dx vs, v = .ref a ∧ H a = some (.ins C dx (ks.zip vs)) ∧ IC c C ∧ ks.length = ds.length ∧ RepCL c H ds vs := by simpa only [RepC] using h
    obtain ⟨a, dx, vs, e, h1, h2, h4, h3⟩ := h2
    exact ⟨a, dx, vs, e, h1, h2, h4, ⟨h3⟩⟩
  · rintro ⟨a, dx, vs, e, h1, h2, h4, ⟨h3⟩⟩
    refine ⟨?_⟩
    simp only [RepC]
    exact ⟨a, dx, vs, e, h1, h2, h4, h3⟩
theorem rep_err {C : Addr} {ks : List Str} {ds : List D} {v : V} : Rep c H (.err C ks ds) v ↔ ∃ a vs, v = .ref a ∧ ErrO H a C (ks.zip vs) ∧ ks.length = ds.length ∧ RepL c H ds vs := by
  constructor
  · rintro ⟨h⟩
    have h2 : ∃ a vs, v = .ref a ∧ ErrO H a C (ks.zip vs) ∧ ks.length = ds.length ∧ RepCL c H ds vs := by simpa only [RepC] using h
    obtain ⟨a, vs, e, h1, h2, h3⟩ := h2
    exact ⟨a, vs, e, h1, h2, ⟨h3⟩⟩
  · rintro ⟨a, vs, e, h1, h2, ⟨h3⟩⟩
    refine ⟨?_⟩
    simp only [RepC]
    exact ⟨a, vs, e, h1, h2, h3⟩
theorem rep_non {v : V} : Rep c H .non v ↔ v = .non := ⟨fun h => by have := h.core; simpa only [RepC] using this, fun h => ⟨by simpa only [RepC] using h⟩⟩
theorem rep_bl {b : Bool} {v : V} : Rep c H (.bl b) v ↔ v = .bl b := ⟨fun h => by have := h.core; simpa only [RepC] using this, fun h => ⟨by simpa only [RepC] using h⟩⟩
theorem rep_int {i : Int} {v : V} : Rep c H (.int i) v ↔ v = .int i := ⟨fun h => by have := h.core; simpa only [RepC] using this, fun h => ⟨by simpa only [RepC] using h⟩⟩
theorem rep_str {z : Str} {v : V} : Rep c H (.str z) v ↔ v = .str z := ⟨fun h => by have := h.core; simpa only [RepC] using this, fun h => ⟨by simpa only [RepC] using h⟩⟩
theorem rep_ref {p : Addr} {v : V} : Rep c H (.ref p) v ↔ v = .ref p := ⟨fun h => by have := h.core; simpa only [RepC] using this, fun h => ⟨by simpa only [RepC] using h⟩⟩
theorem rep_ty {n : String} {v : V} : Rep c H (.ty n) v ↔ v = .ty n := ⟨fun h => by have := h.core; simpa only [RepC] using this, fun h => ⟨by simpa only [RepC] using h⟩⟩
theorem rep_scr {v : V} : Rep c H .scr v ↔ ∃ a ns, c.scr = some (a, ns) ∧ v = .ref a := ⟨fun h => by have := h.core; simpa only [RepC] using this, fun h => ⟨by simpa only [RepC] using h⟩⟩
mutual
theorem ftn_fr (s : Fr c H H') : ∀ (t : T) (v : V), Ftn (cF K) H t v → Ftn (cF K) H' t v
  | .jet, v, h => by
    have h2 : ∃ a dx b n, v = .ref a ∧ H a = some (.ins (cF K) dx (flds .jet b n)) ∧ H b = some (.tup []) ∧ H n = some (.tup (nums .jet)) := h
    obtain ⟨a, dx, b, n, ev, h1, h2, h3⟩ := h2
    exact ⟨a, dx, b, n, ev, s _ _ h1 (.inl rfl), s _ _ h2 trivial, s _ _ h3 trivial⟩
  | .bas l, v, h => by
    have h2 : ∃ a dx b n vs, v = .ref a ∧ H a = some (.ins (cF K) dx (flds (.bas l) b n)) ∧ H b = some (.tup vs) ∧ H n = some (.tup (nums (.bas l))) ∧ FtnL (cF K) H l vs := h
    obtain ⟨a, dx, b, n, vs, ev, h1, h2, h3, h4⟩ := h2
    exact ⟨a, dx, b, n, vs, ev, s _ _ h1 (.inl rfl), s _ _ h2 trivial, s _ _ h3 trivial, ftnL_fr s l vs h4⟩
theorem ftnL_fr (s : Fr c H H') : ∀ (l : List T) (vs : List V), FtnL (cF K) H l vs → FtnL (cF K) H' l vs
  | [], vs, h => h
  | t :: ts, vs, h => by
    have h2 : ∃ v r, vs = v :: r ∧ Ftn (cF K) H t v ∧ FtnL (cF K) H ts r := h
    obtain ⟨v, r, ev, h1, h2⟩ := h2
    exact ⟨v, r, ev, ftn_fr s t v h1, ftnL_fr s ts r h2⟩
end
theorem sqT_fr (s : Fr c H H') {a : Addr} {vs : List V} (h : SqT K H a vs) : SqT K H' a vs := by
  rcases h with (h | ⟨o, h⟩) | h
  · exact .inl (.inl (s _ _ h trivial))
  · exact .inl (.inr ⟨o, s _ _ h trivial⟩)
  · exact .inr h
mutual
theorem rep_fr (s : Fr c H H') : ∀ (d : D) (v : V), Rep c H d v → Rep c H' d v
  | .non, v, h => rep_non.mpr (rep_non.mp h)
  | .bl _, v, h => rep_bl.mpr (rep_bl.mp h)
  | .int _, v, h => rep_int.mpr (rep_int.mp h)
  | .str _, v, h => rep_str.mpr (rep_str.mp h)
  | .ref _, v, h => rep_ref.mpr (rep_ref.mp h)
  | .ty _, v, h => rep_ty.mpr (rep_ty.mp h)
  | .scr, v, h => rep_scr.mpr (rep_scr.mp h)
  | .tree t, v, h => rep_tree.mpr (ftn_fr s t v (rep_tree.mp h))
  | .tup l, v, h => by
    obtain ⟨a, vs, e, h1, h3⟩ := rep_tup.mp h
    exact rep_tup.mpr ⟨a, vs, e, sqT_fr s h1, repL_fr s l vs h3⟩
  | .obj C ks ds, v, h => by
    obtain ⟨a, dx, vs, e, h1, h4, h5, h3⟩ := rep_obj.mp h
    exact rep_obj.mpr ⟨a, dx, vs, e, s _ _ h1 h4, h4, h5, repL_fr s ds vs h3⟩
  | .err C ks ds, v, h => by
    obtain ⟨a, vs, e, h1, h5, h3⟩ := rep_err.mp h
    exact rep_err.mpr ⟨a, vs, e, h1.fr s, h5, repL_fr s ds vs h3⟩
theorem repL_fr (s : Fr c H H') : ∀ (l : List D) (vs : List V), RepL c H l vs → RepL c H' l vs
  | [], vs, h => repL_nil.mpr (repL_nil.mp h)
  | d :: ds, vs, h => by
    obtain ⟨v, r, e, h1, h3⟩ := repL_cons.mp h
    exact repL_cons.mpr ⟨v, r, e, rep_fr s d v h1, repL_fr s ds r h3⟩
end
theorem Rep.fr {d : D} {v : V} (h : Rep c H d v) (s : Fr c H H') : Rep c H' d v := rep_fr s d v h
theorem RepL.fr {l : List D} {vs : List V} (h : RepL c H l vs) (s : Fr c H H') : RepL c H' l vs := repL_fr s l vs h
theorem RepL.len : ∀ {l : List D} {vs : List V}, RepL c H l vs → vs.length = l.length
  | [], vs, h => by rw [repL_nil.mp h]; rfl
  | d :: ds, vs, h => by
    obtain ⟨v, r, rfl, _, h2⟩ := repL_cons.mp h
    show r.length + 1 = ds.length + 1
    rw [h2.len]
theorem RepL.get : ∀ {l : List D} {vs : List V} {i : Nat} {d : D}, RepL c H l vs → l[i]? = some d → ∃ v, vs[i]? = some v ∧ Rep c H d v
  | [], vs, i, d, h, e => by simp at e
  | x :: ds, vs, 0, d, h, e => by
    obtain ⟨v, r, rfl, h1, h2⟩ := repL_cons.mp h
    simp at e
    subst e
    exact ⟨v, rfl, h1⟩
  | x :: ds, vs, i + 1, d, h, e => by
    obtain ⟨v, r, rfl, h1, h2⟩ := repL_cons.mp h
    obtain ⟨u, e1, e2⟩ := h2.get (by simpa using e)
    exact ⟨u, by simpa using e1, e2⟩
theorem RepL.getV {l : List D} {vs : List V} {i : Nat} {v : V} (h : RepL c H l vs) (e : vs[i]? = some v) : ∃ d, l[i]? = some d ∧ Rep c H d v := by
  have hi : i < l.length := by
    rw [← h.len]
    exact (List.getElem?_eq_some_iff.mp e).1
  obtain ⟨u, e1, r⟩ := h.get (List.getElem?_eq_getElem hi)
  rw [e] at e1
  cases e1
  exact ⟨_, List.getElem?_eq_getElem hi, r⟩
theorem RepL.app : ∀ {l m : List D} {vs ws : List V}, RepL c H l vs → RepL c H m ws → RepL c H (l ++ m) (vs ++ ws)
  | [], m, vs, ws, h, g => by
    rw [repL_nil.mp h]
    exact g
  | d :: ds, m, vs, ws, h, g => by
    obtain ⟨v, r, rfl, h1, h2⟩ := repL_cons.mp h
    exact repL_cons.mpr ⟨v, r ++ ws, rfl, h1, h2.app g⟩
theorem RepL.one {d : D} {v : V} (h : Rep c H d v) : RepL c H [d] [v] := repL_cons.mpr ⟨v, [], rfl, h, repL_nil.mpr rfl⟩
theorem RepL.cons {d : D} {v : V} {l : List D} {vs : List V} (h : Rep c H d v) (g : RepL c H l vs) : RepL c H (d :: l) (v :: vs) := repL_cons.mpr ⟨v, vs, rfl, h, g⟩
theorem RepL.nil : RepL c H [] [] := repL_nil.mpr rfl
theorem RepL.drop : ∀ {l : List D} {vs : List V} (n : Nat), RepL c H l vs → RepL c H (l.drop n) (vs.drop n)
  | l, vs, 0, h => by simpa using h
  | [], vs, n + 1, h => by
    rw [repL_nil.mp h]
    exact RepL.nil
  | d :: ds, vs, n + 1, h => by
    obtain ⟨v, r, rfl, h1, h2⟩ := repL_cons.mp h
    simpa using h2.drop n
theorem RepL.take : ∀ {l : List D} {vs : List V} (n : Nat), RepL c H l vs → RepL c H (l.take n) (vs.take n)
  | l, vs, 0, h => by simpa using RepL.nil
  | [], vs, n + 1, h => by
    rw [repL_nil.mp h]
    simpa using RepL.nil
  | d :: ds, vs, n + 1, h => by
    obtain ⟨v, r, rfl, h1, h2⟩ := repL_cons.mp h
    simpa using RepL.cons h1 (h2.take n)
theorem RepL.set : ∀ {l : List D} {vs : List V} {d : D} {v : V} (n : Nat), RepL c H l vs → Rep c H d v → RepL c H (l.set n d) (vs.set n v)
  | [], vs, d, v, n, h, g => by
    rw [repL_nil.mp h]
    exact RepL.nil
  | x :: ds, vs, d, v, 0, h, g => by
    obtain ⟨y, r, rfl, h1, h2⟩ := repL_cons.mp h
    exact RepL.cons g h2
  | x :: ds, vs, d, v, n + 1, h, g => by
    obtain ⟨y, r, rfl, h1, h2⟩ := repL_cons.mp h
    exact RepL.cons h1 (h2.set n g)
theorem RepL.rev : ∀ {l : List D} {vs : List V}, RepL c H l vs → RepL c H l.reverse vs.reverse
  | [], vs, h => by
    rw [repL_nil.mp h]
    exact RepL.nil
  | x :: ds, vs, h => by
    obtain ⟨y, r, rfl, h1, h2⟩ := repL_cons.mp h
    rw [List.reverse_cons, List.reverse_cons]
    exact h2.rev.app (.one h1)
theorem RepL.eraseIdx : ∀ {l : List D} {vs : List V} (n : Nat), RepL c H l vs → RepL c H (l.eraseIdx n) (vs.eraseIdx n)
  | [], vs, n, h => by
    rw [repL_nil.mp h]
    exact RepL.nil
  | x :: ds, vs, 0, h => by
    obtain ⟨y, r, rfl, h1, h2⟩ := repL_cons.mp h
    exact h2
  | x :: ds, vs, n + 1, h => by
    obtain ⟨y, r, rfl, h1, h2⟩ := repL_cons.mp h
    exact RepL.cons h1 (h2.eraseIdx n)
theorem RepL.ints : ∀ {l : List Int} {vs : List V}, RepL c H (l.map D.int) vs ↔ vs = l.map V.int
  | [], vs => repL_nil
  | i :: l, vs => by
    rw [List.map_cons, List.map_cons, repL_cons]
    constructor
    · rintro ⟨v, r, rfl, h1, h2⟩
      rw [rep_int.mp h1, RepL.ints.mp h2]
    · rintro rfl
      exact ⟨_, _, rfl, rep_int.mpr rfl, RepL.ints.mpr rfl⟩
theorem RepL.strs : ∀ {l : List Str} {vs : List V}, RepL c H (l.map D.str) vs ↔ vs = l.map V.str
  | [], vs => repL_nil
  | i :: l, vs => by
    rw [List.map_cons, List.map_cons, repL_cons]
    constructor
    · rintro ⟨v, r, rfl, h1, h2⟩
      rw [rep_str.mp h1, RepL.strs.mp h2]
    · rintro rfl
      exact ⟨_, _, rfl, rep_str.mpr rfl, RepL.strs.mpr rfl⟩
theorem RepL.trees : ∀ {l : List T} {vs : List V}, RepL c H (l.map D.tree) vs ↔ FtnL (cF K) H l vs
  | [], vs => repL_nil
  | t :: l, vs => by
    rw [List.map_cons, repL_cons]
    constructor
    · rintro ⟨v, r, rfl, h1, h2⟩
      exact ⟨v, r, rfl, rep_tree.mp h1, RepL.trees.mp h2⟩
    · rintro ⟨v, r, rfl, h1, h2⟩
      exact ⟨v, r, rfl, rep_tree.mpr h1, RepL.trees.mpr h2⟩
end
def MRep {K : PySem.W.Frag} (c : AC K) (H : Hp) (p : Addr) : MO → Prop
  | .lst l => ∃ vs, H p = some (.lst vs) ∧ RepL c H l vs
  | .dct l => ∃ kvs, H p = some (.dK kvs) ∧ kvs.map (·.1) = l.map (·.1) ∧ RepL c H (l.map (·.2)) (kvs.map (·.2))
  | .ins C ks ds => ∃ dx vs, H p = some (.ins C dx (ks.zip vs)) ∧ ¬ IC c C ∧ ks.length = ds.length ∧ RepL c H ds vs
  | .lsq P => ∃ vs l, H p = some (.lst vs) ∧ RepL c H l vs ∧ P l
  | .opq P => ∃ o, H p = some o ∧ P o ∧ ¬ Imm c o ∧ (∀ ps, o ≠ .tbl ps) ∧ (∀ φ, o ≠ .ext φ) ∧ ∀ xs, ¬ P (.lst xs)
def ScrOk {K : PySem.W.Frag} (c : AC K) (L : Store) (H : Hp) : Prop := ∀ a ns, c.scr = some (a, ns) → ns.length ≤ 63 ∧
  ((H a = some (.lst (ns.map V.int)) ∧ L a = none) ∨ (∃ o, H a = some (.frz o (.lst (ns.map V.int)))) ∨ (∃ (o : Obj) (its : Array Value) (n : Nat), K.lookup a = some o ∧ o.cls = .type "list" ∧ o.dict = none ∧ o.data = .seq its n ∧ its.size ≤ sizeLine ∧ Vals (ns.map V.int) its.toList))
structure Good {K : PySem.W.Frag} (c : AC K) (L : Store) (H : Hp) : Prop where
  tabs : Tabs c.TT H
  st : ∀ p m, L p = some m → MRep c H p m
  scr : ScrOk c L H
section
variable {K : PySem.W.Frag} {c : AC K} {H H1 H' : Hp} {L : Store} {p : Addr} {m : MO}
theorem MRep.at (h : MRep c H p m) : ∃ o, H p = some o ∧ ¬ Imm c o ∧ (∀ ps, o ≠ .tbl ps) ∧ ∀ φ, o ≠ .ext φ := by
  cases m with
  | lst l => obtain ⟨vs, e, _⟩ := h; exact ⟨_, e, fun z => z, fun _ z => (by cases z), fun _ z => (by cases z)⟩
  | dct l => obtain ⟨vs, e, _⟩ := h; exact ⟨_, e, fun z => z, fun _ z => (by cases z), fun _ z => (by cases z)⟩
  | ins C ks ds => obtain ⟨dx, vs, e, n, _⟩ := h; exact ⟨_, e, n, fun _ z => (by cases z), fun _ z => (by cases z)⟩
  | lsq P => obtain ⟨vs, l, e, _⟩ := h; exact ⟨_, e, fun z => z, fun _ z => (by cases z), fun _ z => (by cases z)⟩
  | opq P => obtain ⟨o, e, _, r1, r2, r3, _⟩ := h; exact ⟨o, e, r1, r2, r3⟩
theorem MRep.mono (h : MRep c H p m) (e : H' p = H p) (s : Fr c H H') : MRep c H' p m := by
  cases m with
  | lst l => obtain ⟨vs, e1, r⟩ := h; exact ⟨vs, e.trans e1, r.fr s⟩
  | dct l => obtain ⟨vs, e1, k, r⟩ := h; exact ⟨vs, e.trans e1, k, r.fr s⟩
  | ins C ks ds => obtain ⟨dx, vs, e1, n, k, r⟩ := h; exact ⟨dx, vs, e.trans e1, n, k, r.fr s⟩
  | lsq P => obtain ⟨vs, l, e1, r, q⟩ := h; exact ⟨vs, l, e.trans e1, r.fr s, q⟩
  | opq P => obtain ⟨o, e1, r⟩ := h; exact ⟨o, e.trans e1, r⟩
theorem Good.fresh (g : Good c L H) (h : H p = none) : L p = none := by
  cases e : L p with
  | none => rfl
  | some m =>
    obtain ⟨o, e2, _⟩ := (g.st p m e).at
    rw [h] at e2
    cases e2
theorem tabs_upd {TT : List (Addr × Str)} {o u : HO} (t : Tabs TT H) (hd : ∀ v, H p = some v → (∀ ps, v ≠ .tbl ps) ∧ ∀ φ, v ≠ .ext φ) : Tabs TT (upd H p u) := fun q hq => by
  obtain ⟨ps, h1, h2, h3⟩ := t q hq
  have ne1 : q.1 ≠ p := fun e => (hd _ (e ▸ h1)).1 ps rfl
  refine ⟨ps, by rw [upd_ne ne1]; exact h1, h2, fun pos cv hc => ?_⟩
  obtain ⟨k, e1, e2⟩ := h3 pos cv hc
  have ne2 : k ≠ p := fun e => (hd _ (e ▸ e2)).2 _ rfl
  exact ⟨k, e1, by rw [upd_ne ne2]; exact e2⟩
theorem Good.alloc (g : Good c L H) (hp : H p = none) (o : HO) (hm : MRep c (upd H p o) p m) : Good c (sput L p m) (upd H p o) := by
  have s : Fr c H (upd H p o) := .new hp
  refine ⟨tabs_upd (o := o) g.tabs fun v e => (by rw [hp] at e; cases e), fun q n e => ?_, fun a ns e => ?_⟩
  · by_cases hq : q = p
    · subst hq
      rw [sput_same] at e
      cases e
      exact hm
    · rw [sput_ne hq] at e
      exact (g.st q n e).mono (upd_ne hq) s
  · refine ⟨(g.scr a ns e).1, ?_⟩
    rcases (g.scr a ns e).2 with ⟨h1, h2⟩ | ⟨o', h⟩ | h
    · have ne : a ≠ p := fun z => by subst z; rw [hp] at h1; cases h1
      exact .inl ⟨by rw [upd_ne ne]; exact h1, by rw [sput_ne ne]; exact h2⟩
    · have ne : a ≠ p := fun z => by subst z; rw [hp] at h; cases h
      exact .inr (.inl ⟨o', by rw [upd_ne ne]; exact h⟩)
    · exact .inr (.inr h)
theorem Good.new (g : Good c L H) (hp : H p = none) (o : HO) : Good c L (upd H p o) := by
  have s : Fr c H (upd H p o) := .new hp
  refine ⟨tabs_upd (o := o) g.tabs fun v e => (by rw [hp] at e; cases e), fun q n e => ?_, fun a ns e => ?_⟩
  · have hq : q ≠ p := fun z => by subst z; rw [g.fresh hp] at e; cases e
    exact (g.st q n e).mono (upd_ne hq) s
  · refine ⟨(g.scr a ns e).1, ?_⟩
    rcases (g.scr a ns e).2 with ⟨h1, h2⟩ | ⟨o', h⟩ | h
    · have ne : a ≠ p := fun z => by subst z; rw [hp] at h1; cases h1
      exact .inl ⟨by rw [upd_ne ne]; exact h1, h2⟩
    · have ne : a ≠ p := fun z => by subst z; rw [hp] at h; cases h
      exact .inr (.inl ⟨o', by rw [upd_ne ne]; exact h⟩)
    · exact .inr (.inr h)
theorem Good.put {m' : MO} (g : Good c L H) (hp : L p = some m) (o : HO) (hm : MRep c (upd H p o) p m') : Good c (sput L p m') (upd H p o) ∧ Fr c H (upd H p o) := by
  obtain ⟨u, e0, n0, n1, n2⟩ := (g.st p m hp).at
  have s : Fr c H (upd H p o) := .put e0 n0
  refine ⟨⟨tabs_upd (o := o) g.tabs fun v e => by rw [e0] at e; cases e; exact ⟨n1, n2⟩, fun q n e => ?_, fun a ns e => ?_⟩, s⟩
  · by_cases hq : q = p
    · subst hq
      rw [sput_same] at e
      cases e
      exact hm
    · rw [sput_ne hq] at e
      exact (g.st q n e).mono (upd_ne hq) s
  · refine ⟨(g.scr a ns e).1, ?_⟩
    rcases (g.scr a ns e).2 with ⟨h1, h2⟩ | ⟨o', h⟩ | h
    · have ne : a ≠ p := fun z => by subst z; rw [hp] at h2; cases h2
      exact .inl ⟨by rw [upd_ne ne]; exact h1, by rw [sput_ne ne]; exact h2⟩
    · have ne : a ≠ p := fun z => by subst z; rw [e0] at h; cases h; exact n0 trivial
      exact .inr (.inl ⟨o', by rw [upd_ne ne]; exact h⟩)
    · exact .inr (.inr h)
theorem Good.keep (g : Good c L H) (t : Tabs c.TT H') (s : Fr c H H') (k : ∀ q n, L q = some n → H' q = H q) (hs : ∀ a ns, c.scr = some (a, ns) → H a = some (.lst (ns.map V.int)) → H' a = H a) : Good c L H' := by
  refine ⟨t, fun q n e => (g.st q n e).mono (k q n e) s, fun a ns e => ?_⟩
  refine ⟨(g.scr a ns e).1, ?_⟩
  rcases (g.scr a ns e).2 with ⟨h1, h2⟩ | ⟨o', h⟩ | h
  · exact .inl ⟨(hs a ns e h1).trans h1, h2⟩
  · exact .inr (.inl ⟨o', s _ _ h trivial⟩)
  · exact .inr (.inr h)
theorem Good.extN (g : Good c L H) (t : Tabs c.TT H') (s : ExtN H H') : Good c L H' := by
  refine g.keep t (.extN s) (fun q n e => ?_) fun a ns e h => ?_
  · obtain ⟨o, e0, _, n1, _⟩ := (g.st q n e).at
    rw [s _ _ e0 n1, e0]
  · rw [s _ _ h (fun ps z => by cases z), h]
theorem Good.same (g : Good c L H) (s : L2.Same H H') : Good c L H' := g.extN (JW.Tabs.same g.tabs s) (.of s)
end
section
variable {K : PySem.W.Frag} {c : AC K} {H H1 H' : Hp} {L : Store}
theorem Good.seq (g : Good c L H) {a : Addr} {ns : List Int} (e : c.scr = some (a, ns)) : SqL K H a (ns.map V.int) := by
  rcases (g.scr a ns e).2 with ⟨h, _⟩ | ⟨o, h⟩ | h
  · exact .inl (.inl h)
  · exact .inl (.inr ⟨o, h⟩)
  · exact .inr h
theorem Good.but (g : Good c L H) {d : Addr} {m : MO} (hd : L d = some m) (t : Tabs c.TT H') (s : ∀ b o, b ≠ d → H b = some o → H' b = some o) (hm : MRep c H' d m) : Good c L H' ∧ Fr c H H' := by
  obtain ⟨u, e0, n0, n1, n2⟩ := (g.st d m hd).at
  have fr : Fr c H H' := fun p o h i => s p o (fun z => by subst z; rw [e0] at h; cases h; exact n0 i) h
  refine ⟨⟨t, fun q n e => ?_, fun a ns e => ?_⟩, fr⟩
  · by_cases hq : q = d
    · subst hq
      rw [hd] at e
      cases e
      exact hm
    · obtain ⟨o, e1, _⟩ := (g.st q n e).at
      exact (g.st q n e).mono ((s q o hq e1).trans e1.symm) fr
  · refine ⟨(g.scr a ns e).1, ?_⟩
    rcases (g.scr a ns e).2 with ⟨h1, h2⟩ | ⟨o, h⟩ | h
    · exact .inl ⟨s _ _ (fun z => by subst z; rw [hd] at h2; cases h2) h1, h2⟩
    · exact .inr (.inl ⟨o, fr _ _ h trivial⟩)
    · exact .inr (.inr h)
def law0 : Store := fun _ => none
theorem good_law {a : Addr} {ns : List Int} (hs : c.scr = some (a, ns)) (hl : ns.length ≤ 63) (h : SqL K H a (ns.map V.int)) (t : Tabs c.TT H) : Good c law0 H := by
  refine ⟨t, fun q n e => (by cases e), fun b ms e => ?_⟩
  rw [hs] at e
  cases e
  refine ⟨hl, ?_⟩
  rcases h with (h | ⟨o, h⟩) | h
  · exact .inl ⟨h, rfl⟩
  · exact .inr (.inl ⟨o, h⟩)
  · exact .inr (.inr h)
theorem Good.sameNew {d : Addr} {m : MO} (g : Good c L H) (s : L2.Same H H') (hd : H d = none) (hm : MRep c H' d m) : Good c (sput L d m) H' := by
  have g' := g.same s
  refine ⟨g'.tabs, fun q n e => ?_, fun a ns e => ?_⟩
  · by_cases hq : q = d
    · subst hq
      rw [sput_same] at e
      cases e
      exact hm
    · rw [sput_ne hq] at e
      exact g'.st q n e
  · refine ⟨(g.scr a ns e).1, ?_⟩
    rcases (g.scr a ns e).2 with ⟨h1, h2⟩ | ⟨o, h⟩ | h
    · exact .inl ⟨s _ _ h1, by rw [sput_ne (ne_of_none h1 hd)]; exact h2⟩
    · exact .inr (.inl ⟨o, s _ _ h⟩)
    · exact .inr (.inr h)
def SubS (L0 L : Store) : Prop := ∀ p m, L0 p = some m → L p = some m
theorem SubS.refl (L : Store) : SubS L L := fun _ _ h => h
theorem SubS.trans {L0 L1 L2 : Store} (a : SubS L0 L1) (b : SubS L1 L2) : SubS L0 L2 := fun p m h => b p m (a p m h)
theorem SubS.new {L0 L : Store} {p : Addr} {m : MO} (a : SubS L0 L) (hp : L p = none) : SubS L0 (sput L p m) := fun q n h => sput_old (a q n h) hp
theorem SubS.put {L0 L : Store} {p : Addr} {m : MO} (a : SubS L0 L) (hp : L0 p = none) : SubS L0 (sput L p m) := fun q n h => by
  rw [sput_ne fun e => by rw [e, hp] at h; cases h]
  exact a q n h
theorem SubS.none {L0 L : Store} {p : Addr} (a : SubS L0 L) (hp : L p = none) : L0 p = none := by
  cases e : L0 p with
  | none => rfl
  | some m => rw [a p m e] at hp; cases hp
theorem SubS.mine {L0 L : Store} {p : Addr} {m : MO} (a : SubS L0 L) (hp : L p = some m) : SubS (sput L0 p m) L := fun q n h => by
  by_cases e : q = p
  · subst e
    rw [sput_same] at h
    cases h
    exact hp
  · rw [sput_ne e] at h
    exact a q n h
theorem Good.sub {L0 : Store} (g : Good c L H) (s : SubS L0 L) : Good c L0 H := by
  refine ⟨g.tabs, fun q n e => g.st q n (s q n e), fun a ns e => ⟨(g.scr a ns e).1, ?_⟩⟩
  rcases (g.scr a ns e).2 with ⟨h1, h2⟩ | h
  · exact .inl ⟨h1, s.none h2⟩
  · exact .inr h
end
end AL
namespace AL
open PySem PySem.Spec PyProof.Rows L2 LamX JW
abbrev En := List (Option D)
abbrev AQ := D → Store → Prop
abbrev AX := Str → List (Str × D) → Store → Prop
abbrev ATE := En → Store → AQ → Prop
abbrev ATT := En → Store → (Bool → Store → Prop) → Prop
abbrev ATA := En → Store → (List D → Store → Prop) → Prop
structure AEnds where
  nx : En → Store → Prop
  rt : AQ
  bk : En → Store → Prop := fun _ _ => False
  ct : En → Store → Prop := fun _ _ => False
abbrev ATS := AEnds → En → Store → Prop
abbrev ATG := D → En → Store → (En → Store → Prop) → Prop
abbrev ATGs := List D → En → Store → (En → Store → Prop) → Prop
abbrev ATI := En → Store → (List D → (Store → Prop) → Store → Prop) → Prop
abbrev ASp := List D → Store → AQ → AX → Prop
def anyX : AX := fun _ _ _ => True
section
variable {K : PySem.W.Frag}
structure EnvR (c : AC K) (H : Hp) (σ : L2.St) (env : En) : Prop where
  len : σ.length = env.length
  get : ∀ (i : Nat) (d : D), env[i]? = some (some d) → ∃ v : V, σ[i]? = some (some v) ∧ Rep c H d v
structure Rl (c : AC K) (H0 : Hp) (σ : L2.St) (H : Hp) (env : En) (L : Store) : Prop where
  env : EnvR c H σ env
  good : Good c L H
  fr : Fr c H0 H
def Pq (c : AC K) (H : Hp) (R : AQ) (Q : VK) : Prop := ∀ d L' v H', R d L' → Fr c H H' → Good c L' H' → Rep c H' d v → Q v H'
def ErrR (c : AC K) (H : Hp) (fs : List (Str × D)) (dd : Option Addr) : Prop := (fs = [] ∧ dd = none) ∨ ∃ f d a v, fs = [(f, d)] ∧ dd = some a ∧ H a = some (.xd [(f, v)]) ∧ Rep c H d v
def Px (c : AC K) (H : Hp) (R : AX) (E : XK) : Prop := ∀ x fs L' H' dd, R x fs L' → Fr c H H' → Good c L' H' → ErrR c H' fs dd → E (.ref (He.ga K x)) dd H'
end
section
variable {K : PySem.W.Frag} {c : AC K} {H0 H H1 H' : Hp} {σ : L2.St} {env : En} {L L1 : Store} {Q : VK} {R : AQ} {d : D} {v : V}
theorem EnvR.fr (h : EnvR c H σ env) (s : Fr c H H1) : EnvR c H1 σ env := ⟨h.len, fun i d e => by
  obtain ⟨v, e1, r⟩ := h.get i d e
  exact ⟨v, e1, r.fr s⟩⟩
theorem EnvR.set (h : EnvR c H σ env) (i : Nat) (r : Rep c H d v) : EnvR c H (σ.set i (some v)) (env.set i (some d)) := by
  refine ⟨by rw [List.length_set, List.length_set, h.len], fun j e hj => ?_⟩
  by_cases hi : i = j
  · subst hi
    have lt : i < env.length := by
      rcases Nat.lt_or_ge i env.length with z | z
      · exact z
      · rw [List.getElem?_eq_none (by simpa using z)] at hj
        cases hj
    rw [List.getElem?_set_self lt] at hj
    cases hj
    exact ⟨v, List.getElem?_set_self (by rw [h.len]; exact lt), r⟩
  · rw [List.getElem?_set_ne hi] at hj
    obtain ⟨u, e1, r1⟩ := h.get j e hj
    exact ⟨u, by rw [List.getElem?_set_ne hi]; exact e1, r1⟩
theorem Rl.step (h : Rl c H0 σ H env L) (s : Fr c H H1) (g : Good c L1 H1) : Rl c H0 σ H1 env L1 := ⟨h.env.fr s, g, h.fr.trans s⟩
theorem Pq.fr (h : Pq c H R Q) (s : Fr c H H1) : Pq c H1 R Q := fun d L' v H' r f g p => h d L' v H' r (s.trans f) g p
theorem Pq.here (h : Pq c H R Q) (r : R d L) (g : Good c L H) (p : Rep c H d v) : Q v H := h d L v H r (.refl c H) g p
theorem Pq.new (h : Pq c H R Q) {p : Addr} {o : HO} (hp : H p = none) (r : R d L) (g : Good c L H) (q : Rep c (upd H p o) d v) : Q v (upd H p o) := h d L v _ r (.new hp) (g.new hp o) q
theorem Pq.alloc (h : Pq c H R Q) {p : Addr} {o : HO} {m : MO} (hp : H p = none) (r : R (.ref p) (sput L p m)) (g : Good c L H) (q : MRep c (upd H p o) p m) : Q (.ref p) (upd H p o) :=
  h (.ref p) _ _ _ r (.new hp) (g.alloc hp o q) (rep_ref.mpr rfl)
theorem Px.fr {RX : AX} {E : XK} (h : Px c H RX E) (s : Fr c H H1) : Px c H1 RX E := fun x fs L' H' dd r f g p => h x fs L' H' dd r (s.trans f) g p
end
section
variable {K : PySem.W.Frag}
def lowE (c : AC K) (H0 : Hp) (a : ATE) : TE := fun σ H Q => ∃ env L R, Rl c H0 σ H env L ∧ a env L R ∧ Pq c H R Q
def lowT (c : AC K) (H0 : Hp) (a : ATT) : TT := fun σ H Q => ∃ env L R, Rl c H0 σ H env L ∧ a env L R ∧ ∀ b L' H', R b L' → Fr c H H' → Good c L' H' → Q b H'
def lowA (c : AC K) (H0 : Hp) (a : ATA) : TA := fun σ H Q => ∃ env L R, Rl c H0 σ H env L ∧ a env L R ∧ ∀ ds L' vs H', R ds L' → Fr c H H' → Good c L' H' → RepL c H' ds vs → Q vs H'
structure EndR (c : AC K) (H0 : Hp) (H : Hp) (R : AEnds) (D : Ends) : Prop where
  nx : ∀ env' L' σ' H', R.nx env' L' → Fr c H H' → Rl c H0 σ' H' env' L' → D.nx σ' H'
  rt : ∀ d L' v H', R.rt d L' → Fr c H H' → Good c L' H' → Rep c H' d v → D.rt v H'
  bk : ∀ env' L' σ' H', R.bk env' L' → Fr c H H' → Rl c H0 σ' H' env' L' → D.bk σ' H'
  ct : ∀ env' L' σ' H', R.ct env' L' → Fr c H H' → Rl c H0 σ' H' env' L' → D.ct σ' H'
def lowS (c : AC K) (H0 : Hp) (a : ATS) : TS := fun D σ H => ∃ env L R, Rl c H0 σ H env L ∧ a R env L ∧ EndR c H0 H R D
def lowG (c : AC K) (H0 : Hp) (a : ATG) : TG := fun v σ H Q => ∃ d env L R, Rep c H d v ∧ Rl c H0 σ H env L ∧ a d env L R ∧ ∀ env' L' σ' H', R env' L' → Fr c H H' → Rl c H0 σ' H' env' L' → Q σ' H'
def lowGs (c : AC K) (H0 : Hp) (a : ATGs) : TGs := fun vs σ H Q => ∃ ds env L R, RepL c H ds vs ∧ Rl c H0 σ H env L ∧ a ds env L R ∧ ∀ env' L' σ' H', R env' L' → Fr c H H' → Rl c H0 σ' H' env' L' → Q σ' H'
structure WalkA (c : AC K) (J : It) (items : List D) (G : Store → Prop) (H : Hp) : Prop where
  ex : ∃ GH : Hp → Prop, Walk J items.length GH (fun i H x H' => Fr c H H' ∧ (∀ L, Good c L H → Good c L H') ∧ ∃ d, items[i]? = some d ∧ Rep c H' d x) ∧ ∀ L H', Fr c H H' → Good c L H' → G L → GH H'
def lowI (c : AC K) (H0 : Hp) (a : ATI) : TI := fun σ H Q => ∃ env L R, Rl c H0 σ H env L ∧ a env L R ∧ ∀ items G L' J H', R items G L' → Fr c H H' → Good c L' H' → WalkA c J items G H' → Q J H'
def spA (c : AC K) (asp : ASp) : Sp := fun vs H Q E => ∃ ds L R RX, RepL c H ds vs ∧ Good c L H ∧ asp ds L R RX ∧ Pq c H R Q ∧ Px c H RX E
end
theorem EndR.fr {K : PySem.W.Frag} {c : AC K} {H0 H H1 : Hp} {R : AEnds} {D : Ends} (h : EndR c H0 H R D) (s : Fr c H H1) : EndR c H0 H1 R D :=
  ⟨fun e l σ h' r f => h.nx e l σ h' r (s.trans f), fun d l v h' r f => h.rt d l v h' r (s.trans f), fun e l σ h' r f => h.bk e l σ h' r (s.trans f), fun e l σ h' r f => h.ct e l σ h' r (s.trans f)⟩
section
variable (X : Cx) (c : AC X.K) (H0 : Hp)
def AE (e : Expr) (a : ATE) : Prop := PE X e (lowE c H0 a)
def AT (e : Expr) (a : ATT) : Prop := PT X e (lowT c H0 a)
def AW (e : Expr) (a : ATT) : Prop := PW X e (lowT c H0 a)
def AA (es : List Expr) (a : ATA) : Prop := PA X es (lowA c H0 a)
def AS (st : Stmt) (a : ATS) : Prop := PS X st (lowS c H0 a)
def ASs (st : List Stmt) (a : ATS) : Prop := PSs X st (lowS c H0 a)
def AG (tg : Expr) (a : ATG) : Prop := PG X tg (lowG c H0 a)
def AGs (tg : List Expr) (a : ATGs) : Prop := PGs X tg (lowGs c H0 a)
def AI (tg it : Expr) (a : ATI) : Prop := PI X tg it (lowI c H0 a)
end
section
variable {X : Cx}
theorem _root_.L2.PE.imp {e : Expr} {t t' : TE} (h : PE X e t) (k : ∀ σ H Q, t' σ H Q → t σ H Q) : PE X e t' := ⟨fun pins s σ H Q I q => h.run pins s σ H Q I (k σ H Q q)⟩
theorem _root_.L2.PT.imp {e : Expr} {t t' : TT} (h : PT X e t) (k : ∀ σ H Q, t' σ H Q → t σ H Q) : PT X e t' := ⟨fun pins s σ H Q I q => h.run pins s σ H Q I (k σ H Q q)⟩
theorem _root_.L2.PW.imp {e : Expr} {t t' : TT} (h : PW X e t) (k : ∀ σ H Q, t' σ H Q → t σ H Q) : PW X e t' := ⟨fun wh pins s σ H Q I q => h.run wh pins s σ H Q I (k σ H Q q)⟩
theorem _root_.L2.PA.imp {es : List Expr} {t t' : TA} (h : PA X es t) (k : ∀ σ H Q, t' σ H Q → t σ H Q) : PA X es t' := ⟨fun pos pins s σ H Q I q => h.run pos pins s σ H Q I (k σ H Q q)⟩
theorem _root_.L2.PS.imp {st : Stmt} {t t' : TS} (h : PS X st t) (k : ∀ D σ H, t' D σ H → t D σ H) : PS X st t' := ⟨fun pins s σ H D I q => h.run pins s σ H D I (k D σ H q)⟩
theorem _root_.L2.PSs.imp {st : List Stmt} {t t' : TS} (h : PSs X st t) (k : ∀ D σ H, t' D σ H → t D σ H) : PSs X st t' := ⟨fun pins s σ H D I q => h.run pins s σ H D I (k D σ H q)⟩
theorem _root_.L2.PG.imp {e : Expr} {t t' : TG} (h : PG X e t) (k : ∀ v σ H Q, t' v σ H Q → t v σ H Q) : PG X e t' := ⟨fun pins s σ H v u Q I r q => h.run pins s σ H v u Q I r (k v σ H Q q)⟩
theorem _root_.L2.PGs.imp {es : List Expr} {t t' : TGs} (h : PGs X es t) (k : ∀ v σ H Q, t' v σ H Q → t v σ H Q) : PGs X es t' := ⟨fun pins s σ H v u Q I r q => h.run pins s σ H v u Q I r (k v σ H Q q)⟩
theorem _root_.L2.PI.imp {tg it : Expr} {t t' : TI} (h : PI X tg it t) (k : ∀ σ H R, t' σ H R → t σ H R) : PI X tg it t' := ⟨fun pins s σ H R I q => h.run pins s σ H R I (k σ H R q)⟩
theorem _root_.L2.OpR.imp {f : Value → Value → Sem Value} {r r' : R2} (h : OpR X f r) (k : ∀ x y H Q, r' x y H Q → r x y H Q) : OpR X f r' := fun pins s σ H x y v u Q I rx ry q => h pins s σ H x y v u Q I rx ry (k x y H Q q)
theorem _root_.L2.CallR.imp {f : Value} {r r' : List V → Hp → VK → Prop} (h : CallR X f r) (k : ∀ vs H Q, r' vs H Q → r vs H Q) : CallR X f r' := fun pins s σ H vs us Q I rv q => h pins s σ H vs us Q I rv (k vs H Q q)
end
def aVar (i : Nat) : ATE := fun env L Q => match env[i]? with
  | some (some d) => Q d L
  | _ => False
def aC (d : D) : ATE := fun _ L Q => Q d L
def aOp (f : D → D → Store → AQ → Prop) (a b : ATE) : ATE := fun env L Q => a env L fun d L1 => b env L1 fun e L2 => f d e L2 Q
def aNil : ATA := fun _ L Q => Q [] L
def aCons (a : ATE) (as : ATA) : ATA := fun env L Q => a env L fun d L1 => as env L1 fun ds L2 => Q (d :: ds) L2
def aTup (as : ATA) : ATE := fun env L Q => as env L fun ds L1 => ds.length ≤ sizeLine ∧ Q (.tup ds) L1
def aLst (as : ATA) : ATE := fun env L Q => as env L fun ds L1 => ds.length ≤ sizeLine ∧ ∀ p, L1 p = none → Q (.ref p) (sput L1 p (.lst ds))
def aIf (t : ATT) (a b : ATE) : ATE := fun env L Q => t env L fun k L1 => if k = true then a env L1 Q else b env L1 Q
section
variable {X : Cx} {c : AC X.K} {H0 : Hp} {e f g : Expr} {es : List Expr} {a b : ATE} {as : ATA} {pos : Pos} {t u : ATT}
theorem ae_var {i : Nat} {x : Str} (hN : X.N[i]? = some x) (hv : Vis X.env.scope x) (hd : (x == ("__debug__" : Str)) = false := by decide) (hcd : (x == ("__classdict__" : Str)) = false := by decide) : AE X c H0 (.Name x pos) (aVar i) := by
  refine (pe_var hN hv hd hcd).imp fun σ H Q ⟨env, L, R, rl, h, pq⟩ => ?_
  unfold aVar at h
  split at h
  · rename_i d e
    obtain ⟨v, e1, r⟩ := rl.env.get i d e
    exact ⟨v, e1, pq.here h rl.good r⟩
  · exact h.elim
theorem ae_c {d : D} {v : V} (h : PE X e (tC v)) (r : ∀ H, Rep c H d v) : AE X c H0 e (aC d) := h.imp fun _ H _ ⟨_, _, _, rl, h, pq⟩ => pq.here h rl.good (r H)
theorem ae_int {i : Int} {j} : AE X c H0 (.Constant (.int i) j pos) (aC (.int i)) := ae_c pe_int fun _ => rep_int.mpr rfl
theorem ae_bl {i : Bool} {j} : AE X c H0 (.Constant (.bool i) j pos) (aC (.bl i)) := ae_c pe_bl fun _ => rep_bl.mpr rfl
theorem ae_str {x : Str} {j} : AE X c H0 (.Constant (.str x) j pos) (aC (.str x)) := ae_c pe_str fun _ => rep_str.mpr rfl
def LowR2 {K : PySem.W.Frag} (c : AC K) (r : R2) (f : D → D → Store → AQ → Prop) : Prop := ∀ x y H Q d e L R, Rep c H d x → Rep c H e y → Good c L H → f d e L R → Pq c H R Q → r x y H Q
structure AOp (X : Cx) (c : AC X.K) (g : Value → Value → Sem Value) (f : D → D → Store → AQ → Prop) : Prop where
  ex : ∃ r, OpR X g r ∧ LowR2 c r f
theorem low_op {r : R2} {f : D → D → Store → AQ → Prop} (h : LowR2 c r f) {σ : L2.St} {H : Hp} {Q : VK} (q : lowE c H0 (aOp f a b) σ H Q) : tOp r (lowE c H0 a) (lowE c H0 b) σ H Q := by
  obtain ⟨env, L, R, rl, ha, pq⟩ := q
  refine ⟨env, L, _, rl, ha, fun d L1 x H1 hb s1 g1 r1 => ?_⟩
  refine ⟨env, L1, _, rl.step s1 g1, hb, fun e L2 y H2 hf s2 g2 r2 => ?_⟩
  exact h x y H2 Q d e L2 R (r1.fr s2) r2 g2 hf (pq.fr (s1.trans s2))
theorem ae_op {op : Operator} {f' : D → D → Store → AQ → Prop} (h : AOp X c (binaryOp op) f') (ha : AE X c H0 e a) (hb : AE X c H0 f b) : AE X c H0 (.BinOp e op f pos) (aOp f' a b) := by
  obtain ⟨r, h1, h2⟩ := h.ex
  exact (pe_op h1 ha hb).imp fun _ _ _ q => low_op h2 q
theorem ae_cmp {op : CmpOp} {f' : D → D → Store → AQ → Prop} (h : AOp X c (compareOp op) f') (ha : AE X c H0 e a) (hb : AE X c H0 f b) (hm : behindInMarks op f = false) : AE X c H0 (.Compare e [op] [f] pos) (aOp f' a b) := by
  obtain ⟨r, h1, h2⟩ := h.ex
  exact (pe_cmpR h1 ha hb hm).imp fun _ _ _ q => low_op h2 q
theorem aa_nil : AA X c H0 [] aNil := pa_nil.imp fun _ H _ ⟨_, _, _, rl, h, pq⟩ => pq _ _ _ _ h (.refl c H) rl.good RepL.nil
theorem aa_cons (ha : AE X c H0 e a) (hr : AA X c H0 es as) (hs : starEach (e :: es) X.env = (false, eval e X.env) :: starEach es X.env := by rfl) : AA X c H0 (e :: es) (aCons a as) := by
  refine (pa_cons ha hr hs).imp fun σ H Q ⟨env, L, R, rl, h, pq⟩ => ?_
  refine ⟨env, L, _, rl, h, fun d L1 x H1 hb s1 g1 r1 => ?_⟩
  exact ⟨env, L1, _, rl.step s1 g1, hb, fun ds L2 xs H2 q s2 g2 r2 => pq _ _ _ _ q (s1.trans s2) g2 (RepL.cons (r1.fr s2) r2)⟩
theorem ae_tup {x1} (h : AA X c H0 es as) : AE X c H0 (.Tuple es x1 pos) (aTup as) := by
  refine (pe_tup h).imp fun σ H Q ⟨env, L, R, rl, h, pq⟩ => ?_
  refine ⟨env, L, _, rl, h, fun ds L1 xs H1 ⟨hz, q⟩ s1 g1 r1 => ⟨by rw [r1.len]; exact hz, fun p hp => ?_⟩⟩
  exact (pq.fr s1).new hp q g1 (rep_tup.mpr ⟨p, xs, rfl, SqT.of upd_same, r1.fr (.new hp)⟩)
theorem ae_lst (h : AA X c H0 es as) : AE X c H0 (.List es pos) (aLst as) := by
  refine (pe_lst h).imp fun σ H Q ⟨env, L, R, rl, h, pq⟩ => ?_
  refine ⟨env, L, _, rl, h, fun ds L1 xs H1 ⟨hz, q⟩ s1 g1 r1 => ⟨by rw [r1.len]; exact hz, fun p hp => ?_⟩⟩
  exact (pq.fr s1).alloc hp (q p (g1.fresh hp)) g1 ⟨xs, upd_same, r1.fr (.new hp)⟩
end
def truM : Option MO → (Bool → Prop) → Prop
  | some (.lst l), Q => Q (!l.isEmpty)
  | some (.dct l), Q => Q (!l.isEmpty)
  | _, _ => False
def tru : D → Store → (Bool → Store → Prop) → Prop
  | .non, L, Q => Q false L
  | .bl b, L, Q => Q b L
  | .int i, L, Q => Q (i != 0) L
  | .str s, L, Q => s.length ≤ sizeLine ∧ Q ((s.length : Int) != 0) L
  | .tup l, L, Q => Q (!l.isEmpty) L
  | .ref p, L, Q => truM (L p) fun b => Q b L
  | _, _, _ => False
theorem RepL.isEmpty {K : PySem.W.Frag} {c : AC K} {H : Hp} {l : List D} {vs : List V} (h : RepL c H l vs) : vs.isEmpty = l.isEmpty := by
  have := h.len
  cases l <;> cases vs <;> simp_all
theorem tru_low {K : PySem.W.Frag} {c : AC K} {H : Hp} {d : D} {v : V} {L : Store} {R : Bool → Store → Prop} (r : Rep c H d v) (g : Good c L H) (h : tru d L R) : ∃ k, TruV K v H k ∧ R k L := by
  cases d with
  | non => cases rep_non.mp r; exact ⟨false, rfl, h⟩
  | bl b => cases rep_bl.mp r; exact ⟨b, rfl, h⟩
  | int i => cases rep_int.mp r; exact ⟨_, rfl, h⟩
  | str s => cases rep_str.mp r; exact ⟨_, ⟨h.1, rfl⟩, h.2⟩
  | tup l =>
    obtain ⟨p, vs, rfl, e, rs⟩ := rep_tup.mp r
    exact ⟨_, .inr (.inl ⟨vs, e, rfl⟩), by rw [rs.isEmpty]; exact h⟩
  | ref p =>
    cases rep_ref.mp r
    have h : truM (L p) fun b => R b L := h
    match e : L p, h with
    | some (.lst l), h =>
      obtain ⟨vs, e1, rs⟩ := g.st _ _ e
      exact ⟨_, .inl ⟨vs, SqL.of e1, rfl⟩, by rw [rs.isEmpty]; exact h⟩
    | some (.dct l), h =>
      obtain ⟨kvs, e1, ek, rs⟩ := g.st _ _ e
      refine ⟨_, .inr (.inr ⟨kvs, e1, rfl⟩), ?_⟩
      have : kvs.isEmpty = l.isEmpty := by
        have := congrArg List.length ek
        cases l <;> cases kvs <;> simp_all
      rw [this]
      exact h
    | none, h => exact h.elim
    | some (.ins _ _ _), h => exact h.elim
    | some (.opq _), h => exact h.elim
    | some (.lsq _), h => exact h.elim
  | ty n => exact h.elim
  | scr => exact h.elim
  | tree t => exact h.elim
  | obj C ks ds => exact h.elim
  | err C ks ds => exact h.elim
def blD : D → (Bool → Prop) → Prop
  | .bl b, Q => Q b
  | _, _ => False
def aBl (a : ATE) : ATT := fun env L Q => a env L fun d L1 => blD d fun b => Q b L1
def aAnd (t u : ATT) : ATT := fun env L Q => t env L fun k L1 => if k = true then u env L1 Q else Q false L1
def aOr (t u : ATT) : ATT := fun env L Q => t env L fun k L1 => if k = true then Q true L1 else u env L1 Q
def aNot (t : ATT) : ATT := fun env L Q => t env L fun k L1 => Q (!k) L1
section
variable {X : Cx} {c : AC X.K} {H0 : Hp} {e f g : Expr} {es : List Expr} {a b a' : ATE} {as : ATA} {pos : Pos} {t u : ATT}
theorem bl_low {K : PySem.W.Frag} {c : AC K} {H : Hp} {d : D} {v : V} {R : Bool → Prop} (r : Rep c H d v) (h : blD d R) : ∃ k, v = .bl k ∧ R k := by
  cases d with
  | bl b => exact ⟨b, rep_bl.mp r, h⟩
  | _ => exact h.elim
theorem at_bl (ha : AE X c H0 e a) (he : ∀ whole, isTrue e X.env whole = (do let v ← whole; standAt e.pos; holding [v] (truthy v)) := by intro _; rfl) : AT X c H0 e (aBl a) := by
  refine (pt_val ha he).imp fun σ H Q ⟨env, L, R, rl, h, pq⟩ => ?_
  refine ⟨env, L, _, rl, h, fun d L1 x H1 q s1 g1 r1 => ?_⟩
  obtain ⟨k, e1, e2⟩ := bl_low (R := fun b => R b L1) r1 q
  exact ⟨k, e1, pq k L1 H1 e2 s1 g1⟩
theorem low_test {t : TE} {σ : L2.St} {H : Hp} {Q : Bool → Hp → Prop} (k : ∀ σ H Q, lowE c H0 a σ H Q → t σ H Q) (q : lowT c H0 (aBl a) σ H Q) : tTest t σ H Q := by
  obtain ⟨env, L, R, rl, h, pq⟩ := q
  refine k _ _ _ ⟨env, L, _, rl, h, fun d L1 x H1 q s1 g1 r1 => ?_⟩
  obtain ⟨k, e1, e2⟩ := bl_low (R := fun b => R b L1) r1 q
  exact ⟨k, e1, pq k L1 H1 e2 s1 g1⟩
theorem at_cmp {op : CmpOp} {f' : D → D → Store → AQ → Prop} (h : AOp X c (compareOp op) f') (ha : AE X c H0 e a) (hb : AE X c H0 f b) (hm : behindInMarks op f = false) : AT X c H0 (.Compare e [op] [f] pos) (aBl (aOp f' a b)) := by
  obtain ⟨r, h1, h2⟩ := h.ex
  exact (pt_cmpR h1 ha hb hm).imp fun _ _ _ q => low_test (fun _ _ _ z => low_op h2 z) q
theorem AW.pt (h : AW X c H0 e t) : AT X c H0 e t := PW.pt h
theorem aw_and1 (h : AT X c H0 e t) : AW X c H0 (.BoolOp .And [e] pos) t := pw_and1 h
theorem aw_or1 (h : AT X c H0 e t) : AW X c H0 (.BoolOp .Or [e] pos) t := pw_or1 h
theorem aw_and (ha : AT X c H0 e t) (hb : AW X c H0 (.BoolOp .And (f :: es) pos) u) : AW X c H0 (.BoolOp .And (e :: f :: es) pos) (aAnd t u) := by
  refine (pw_and ha hb).imp fun σ H Q ⟨env, L, R, rl, h, pq⟩ => ?_
  refine ⟨env, L, _, rl, h, fun k L1 H1 q s1 g1 => ?_⟩
  cases k with
  | true => exact ⟨env, L1, R, rl.step s1 g1, q, fun b L' H' r s => pq b L' H' r (s1.trans s)⟩
  | false => exact pq _ _ _ q s1 g1
theorem aw_or (ha : AT X c H0 e t) (hb : AW X c H0 (.BoolOp .Or (f :: es) pos) u) : AW X c H0 (.BoolOp .Or (e :: f :: es) pos) (aOr t u) := by
  refine (pw_or ha hb).imp fun σ H Q ⟨env, L, R, rl, h, pq⟩ => ?_
  refine ⟨env, L, _, rl, h, fun k L1 H1 q s1 g1 => ?_⟩
  cases k with
  | true => exact pq _ _ _ q s1 g1
  | false => exact ⟨env, L1, R, rl.step s1 g1, q, fun b L' H' r s => pq b L' H' r (s1.trans s)⟩
theorem at_not (ha : AT X c H0 e t) : AT X c H0 (.UnaryOp .Not e pos) (aNot t) := by
  refine (pt_not ha).imp fun σ H Q ⟨env, L, R, rl, h, pq⟩ => ?_
  exact ⟨env, L, _, rl, h, fun k L1 H1 q s1 g1 => pq _ _ _ q s1 g1⟩
def aOrV (a b : ATE) : ATE := fun env L Q => a env L fun d L1 => tru d L1 fun k L2 => if k = true then Q d L2 else b env L2 Q
def aAndV (a b : ATE) : ATE := fun env L Q => a env L fun d L1 => tru d L1 fun k L2 => if k = true then b env L2 Q else Q d L2
def aNotV (a : ATE) : ATE := fun env L Q => a env L fun d L1 => tru d L1 fun k L2 => Q (.bl (!k)) L2
theorem ae_one {op} (h : AE X c H0 e a) : AE X c H0 (.BoolOp op [e] pos) a := pe_one h
theorem ae_or (ha : AE X c H0 e a) (hb : AE X c H0 (.BoolOp .Or (f :: es) pos) b) : AE X c H0 (.BoolOp .Or (e :: f :: es) pos) (aOrV a b) := by
  refine (pe_orT ha hb).imp fun σ H Q ⟨env, L, R, rl, h, pq⟩ => ?_
  refine ⟨env, L, _, rl, h, fun d L1 x H1 q s1 g1 r1 => ?_⟩
  obtain ⟨k, e1, e2⟩ := tru_low r1 g1 q
  refine ⟨k, e1, ?_⟩
  cases k with
  | true => exact (pq.fr s1).here e2 g1 r1
  | false => exact ⟨env, L1, R, rl.step s1 g1, e2, pq.fr s1⟩
theorem ae_and (ha : AE X c H0 e a) (hb : AE X c H0 (.BoolOp .And (f :: es) pos) b) : AE X c H0 (.BoolOp .And (e :: f :: es) pos) (aAndV a b) := by
  refine (pe_andT ha hb).imp fun σ H Q ⟨env, L, R, rl, h, pq⟩ => ?_
  refine ⟨env, L, _, rl, h, fun d L1 x H1 q s1 g1 r1 => ?_⟩
  obtain ⟨k, e1, e2⟩ := tru_low r1 g1 q
  refine ⟨k, e1, ?_⟩
  cases k with
  | true => exact ⟨env, L1, R, rl.step s1 g1, e2, pq.fr s1⟩
  | false => exact (pq.fr s1).here e2 g1 r1
theorem ae_not (ha : AE X c H0 e a) : AE X c H0 (.UnaryOp .Not e pos) (aNotV a) := by
  refine (pe_notT ha).imp fun σ H Q ⟨env, L, R, rl, h, pq⟩ => ?_
  refine ⟨env, L, _, rl, h, fun d L1 x H1 q s1 g1 r1 => ?_⟩
  obtain ⟨k, e1, e2⟩ := tru_low r1 g1 q
  exact ⟨k, e1, (pq.fr s1).here e2 g1 (rep_bl.mpr rfl)⟩
end
def aSeq (a b : ATS) : ATS := fun D env L => a { D with nx := b D } env L
def aNext : ATS := fun D env L => D.nx env L
def aDrop (a : ATE) : ATS := fun D env L => a env L fun _ L1 => D.nx env L1
def aRet (a : ATE) : ATS := fun D env L => a env L D.rt
def aIfS (t : ATT) (a b : ATS) : ATS := fun D env L => t env L fun k L1 => if k = true then a D env L1 else b D env L1
def aNever : ATS := fun _ _ _ => False
def aAsg (a : ATE) (g : ATG) : ATS := fun D env L => a env L fun d L1 => g d env L1 D.nx
def agName (i : Nat) : ATG := fun d env L Q => Q (env.set i (some d)) L
def agNil : ATGs := fun ds env L Q => ds = [] ∧ Q env L
def agCons (g : ATG) (gs : ATGs) : ATGs := fun ds env L Q => match ds with
  | d :: r => g d env L fun env1 L1 => gs r env1 L1 Q
  | [] => False
def agTup (gs : ATGs) : ATG := fun d env L Q => match d with
  | .tup l => gs l env L Q
  | _ => False
def aWhile (t : ATT) (b : ATS) : ATS := fun D env L => ∃ W : Nat → En → Store → Prop, (∃ m, W m env L) ∧ ∀ m env L, W m env L →
  t env L fun k L1 => if k = true then b { D with nx := fun e l => ∃ m', m' < m ∧ W m' e l, ct := fun e l => ∃ m', m' < m ∧ W m' e l, bk := D.nx } env L1 else D.nx env L1
def loopA (g : ATG) (b : ATS) (N : AEnds) (G : Store → Prop) : List D → En → Store → Prop
  | [], env, L => G L ∧ N.nx env L
  | d :: ds, env, L => G L ∧ g d env L fun env1 L1 => b { N with nx := loopA g b N G ds, ct := loopA g b N G ds, bk := N.nx } env1 L1
def aFor (ai : ATI) (g : ATG) (b : ATS) : ATS := fun D env L => ai env L fun items G L1 => loopA g b D G items env L1
section
variable {X : Cx} {c : AC X.K} {H0 : Hp} {e f tg : Expr} {es tgs : List Expr} {a b a' : ATE} {pos : Pos} {t : ATT} {st : Stmt} {rest sts sts' : List Stmt} {s1 s2 : ATS} {g : ATG} {gs : ATGs}
theorem as_nil : ASs X c H0 [] aNext := pss_nil.imp fun D σ H ⟨env, L, R, rl, h, er⟩ => er.nx env L σ H h (.refl c H) rl
theorem as_cons (h1 : AS X c H0 st s1) (h2 : ASs X c H0 rest s2) : ASs X c H0 (st :: rest) (aSeq s1 s2) := by
  refine (pss_cons h1 h2).imp fun D σ H ⟨env, L, R, rl, h, er⟩ => ?_
  exact ⟨env, L, _, rl, h, ⟨fun env' L' σ' H' r s rl' => ⟨env', L', R, rl', r, er.fr s⟩, er.rt, er.bk, er.ct⟩⟩
theorem as_one (h1 : AS X c H0 st s1) : ASs X c H0 [st] s1 := pss_one h1
theorem as_expr (he : AE X c H0 e a) (hs : swapsWith e none pos.line X.env = pure false := by rfl) : AS X c H0 (.Expr e pos) (aDrop a) := by
  refine (ps_expr he hs).imp fun D σ H ⟨env, L, R, rl, h, er⟩ => ?_
  exact ⟨env, L, _, rl, h, fun d L1 v H1 q s g r => er.nx env L1 σ H1 q s (rl.step s g)⟩
theorem as_ret (he : AE X c H0 e a) : AS X c H0 (.Return (some e) pos) (aRet a) := by
  refine (ps_ret he).imp fun D σ H ⟨env, L, R, rl, h, er⟩ => ?_
  exact ⟨env, L, _, rl, h, fun d L1 v H1 q s g r => er.rt d L1 v H1 q s g r⟩
theorem as_if (hc : AT X c H0 e t) (ha : ASs X c H0 sts s1) (hb : ASs X c H0 sts' s2) : AS X c H0 (.If e sts sts' pos) (aIfS t s1 s2) := by
  refine (ps_if hc ha hb).imp fun D σ H ⟨env, L, R, rl, h, er⟩ => ?_
  refine ⟨env, L, _, rl, h, fun k L1 H1 q s g => ?_⟩
  cases k with
  | true => exact ⟨env, L1, R, rl.step s g, q, er.fr s⟩
  | false => exact ⟨env, L1, R, rl.step s g, q, er.fr s⟩
theorem ass_never : ASs X c H0 sts aNever := pss_never.imp fun D σ H ⟨_, _, _, _, h, _⟩ => h
theorem ag_name {i : Nat} {x : Str} (hN : X.N.Nodup) (hi : X.N[i]? = some x) (hx : Loc X.env.scope x) (hf : X.fn x = true ∨ X.env.scope.names.lookup x = some .local := by first | exact .inl rfl | exact .inr rfl | assumption) : AG X c H0 (.Name x pos) (agName i) := by
  refine (pg_name hN hi hx hf).imp fun v σ H Q ⟨d, env, L, R, r, rl, h, pq⟩ => ?_
  exact pq _ L _ H h (.refl c H) ⟨rl.env.set i r, rl.good, rl.fr⟩
theorem ags_nil : AGs X c H0 [] agNil := pgs_nil.imp fun vs σ H Q ⟨ds, env, L, R, r, rl, h, pq⟩ => by
  obtain ⟨rfl, h⟩ := h
  exact ⟨repL_nil.mp r, pq _ L _ H h (.refl c H) rl⟩
theorem ags_cons (h1 : AG X c H0 tg g) (h2 : AGs X c H0 tgs gs) (hs : (assignEach (tg :: tgs) X.env).map (·.2) = assign tg X.env :: (assignEach tgs X.env).map (·.2) := by rfl) : AGs X c H0 (tg :: tgs) (agCons g gs) := by
  refine (pgs_cons h1 h2 hs).imp fun vs σ H Q ⟨ds, env, L, R, r, rl, h, pq⟩ => ?_
  cases ds with
  | nil => exact h.elim
  | cons d ds =>
    obtain ⟨v, rs, rfl, r1, r2⟩ := repL_cons.mp r
    exact ⟨v, rs, rfl, d, env, L, _, r1, rl, h, fun env' L' σ' H' q s rl' => ⟨ds, env', L', R, r2.fr s, rl', q, fun env2 L2 σ2 H2 q2 s2 => pq env2 L2 σ2 H2 q2 (s.trans s2)⟩⟩
theorem ag_tup {k : Nat} {n : Nat} (hc : X.calm = true) (h : AGs X c H0 tgs gs) (hl : ∀ ds env L R, gs ds env L R → ds.length = n) (hn : (assignEach tgs X.env).length = n := by rfl) (hst : (assignEach tgs X.env).findIdx? (·.1) = none := by rfl) : AG X c H0 (.Tuple tgs k pos) (agTup gs) := by
  refine (pg_tup hc h hn hst).imp fun v σ H Q ⟨d, env, L, R, r, rl, h, pq⟩ => ?_
  cases d with
  | tup l =>
    obtain ⟨p, vs, rfl, e, rs⟩ := rep_tup.mp r
    exact ⟨p, vs, rfl, e, by rw [rs.len]; exact hl l env L R h, l, env, L, R, rs, rl, h, pq⟩
  | _ => exact h.elim
theorem as_set {i : Nat} {x : Str} {pos' : Pos} (hN : X.N.Nodup) (hi : X.N[i]? = some x) (hx : Loc X.env.scope x) (he : AE X c H0 e a) (hs : swapsWith e (some (.Name x pos')) pos.line X.env = pure false := by rfl)
    (hf : X.fn x = true ∨ X.env.scope.names.lookup x = some .local := by first | exact .inl rfl | exact .inr rfl | assumption) : AS X c H0 (.Assign [.Name x pos'] e pos) (aAsg a (agName i)) := by
  refine (ps_set hN hi hx he hs hf).imp fun D σ H ⟨env, L, R, rl, h, er⟩ => ?_
  exact ⟨env, L, _, rl, h, fun d L1 v H1 q s g1 r => er.nx _ L1 _ H1 q s ⟨(rl.env.fr s).set i r, g1, rl.fr.trans s⟩⟩
def aPar (i j : Nat) (as : ATA) : ATS := fun D env L => as env L fun ds L1 => match ds with
  | [d, e] => D.nx ((env.set i (some d)).set j (some e)) L1
  | _ => False
theorem as_par {i j : Nat} {x y : Str} {as : ATA} {px py pt : Pos} {kt k2 pt2} (hc : X.calm = true) (hN : X.N.Nodup) (hi : X.N[i]? = some x) (hj : X.N[j]? = some y) (hij : i ≠ j)
    (hx : X.env.scope.names.lookup x = some .local) (hy : X.env.scope.names.lookup y = some .local) (ha : AA X c H0 [e, f] as)
    (hw : swappedStores [.Tuple [.Name x px, .Name y py] kt pt] (.Tuple [e, f] k2 pt2) X.env = pure (some [x, y]))
    (hs : swapsWithSole [.Tuple [.Name x px, .Name y py] kt pt] (.Tuple [e, f] k2 pt2) pos.line X.env = pure false := by rfl) :
    AS X c H0 (.Assign [.Tuple [.Name x px, .Name y py] kt pt] (.Tuple [e, f] k2 pt2) pos) (aPar i j as) := by
  refine (ps_par hc hN hi hj hij hx hy ha hw hs).imp fun D σ H ⟨env, L, R, rl, h, er⟩ => ?_
  refine ⟨env, L, _, rl, h, fun ds L1 vs H1 q s g1 r => ?_⟩
  match ds, q, r with
  | [d1, d2], q, r =>
    obtain ⟨v, rs, rfl, r1, r2⟩ := repL_cons.mp r
    obtain ⟨w, rs2, rfl, r3, r4⟩ := repL_cons.mp r2
    cases repL_nil.mp r4
    exact ⟨v, w, rfl, er.nx _ L1 _ H1 q s ⟨((rl.env.fr s).set i r1).set j r3, g1, rl.fr.trans s⟩⟩
  | [], q, _ => exact q.elim
  | [_], q, _ => exact q.elim
  | _ :: _ :: _ :: _, q, _ => exact q.elim
theorem as_while (hp : PassesOwn (model X.prog X.w) X.A X.env X.xe) (hc : AT X c H0 e t) (hb : ASs X c H0 sts s1) : AS X c H0 (.While e sts [] pos) (aWhile t s1) := by
  refine (ps_while hp hc hb).imp fun D σ H ⟨env, L, R, rl, ⟨W, ⟨m0, w0⟩, turn⟩, er⟩ => ?_
  refine ⟨fun m σ' H' => Fr c H H' ∧ ∃ env' L', Rl c H0 σ' H' env' L' ∧ W m env' L', ⟨m0, .refl c H, env, L, rl, w0⟩, ?_⟩
  rintro m σ1 H1 ⟨f1, env1, L1, rl1, w1⟩
  refine ⟨env1, L1, _, rl1, turn m env1 L1 w1, fun k L2 H2 q s g => ?_⟩
  cases k with
  | true =>
    refine ⟨fun σ' H' => Fr c H H' ∧ ∃ env' L', Rl c H0 σ' H' env' L' ∧ ∃ m', m' < m ∧ W m' env' L', fun σ' H' ⟨f', env', L', rl', m', hm, w'⟩ => ⟨m', hm, f', env', L', rl', w'⟩, ?_⟩
    refine ⟨env1, L2, _, rl1.step s g, q, ⟨fun env' L' σ' H' q' s' rl' => ⟨(f1.trans s).trans s', env', L', rl', q'⟩, fun d L' v H' q' s' => er.rt d L' v H' q' ((f1.trans s).trans s'), fun env' L' σ' H' q' s' rl' => er.nx env' L' σ' H' q' ((f1.trans s).trans s') rl', fun env' L' σ' H' q' s' rl' => ⟨(f1.trans s).trans s', env', L', rl', q'⟩⟩⟩
  | false => exact er.nx env1 L2 σ1 H2 q (f1.trans s) (rl1.step s g)
theorem as_for {iter : Expr} {ai : ATI} (hp : PassesOwn (model X.prog X.w) X.A X.env X.xe) (hc : X.calm = true) (hi : AI X c H0 tg iter ai) (hg : AG X c H0 tg g) (hb : ASs X c H0 sts s1)
    (hs : ∀ x, foldedSetIterable iter X.env x = pure x := by intro _; rfl) : AS X c H0 (.For tg iter sts [] pos) (aFor ai g s1) := by
  refine (ps_for hp hc hi hg hb hs).imp fun D σ H ⟨env, L, R, rl, h, er⟩ => ?_
  refine ⟨env, L, _, rl, h, fun items G L1 J H1 q s g1 wa => ?_⟩
  obtain ⟨GH, wk, hG⟩ := wa.ex
  have hd : ∀ {i : Nat}, i < items.length → ∃ d, items[i]? = some d ∧ items.drop i = d :: items.drop (i + 1) := fun {i} hi => ⟨items[i], List.getElem?_eq_getElem hi, List.drop_eq_getElem_cons hi⟩
  have hGl : ∀ {ds : List AL.D} {env' : En} {L' : Store}, loopA g s1 R G ds env' L' → G L' := fun {ds env' L'} z => by
    cases ds with
    | nil => exact z.1
    | cons d ds => exact z.1
  refine for_it wk (fun i σ' H' => Fr c H1 H' ∧ ∃ env' L', Rl c H0 σ' H' env' L' ∧ loopA g s1 R G (items.drop i) env' L') ⟨.refl c H1, env, L1, rl.step s g1, q⟩ (fun i σ' H' _ ⟨f, env', L', rl', z⟩ => hG L' H' f rl'.good (hGl z)) ?_ ?_
  · rintro i x σ' H2 H3 hi ⟨f, env', L', rl', z⟩ ⟨s2, k2, d, e1, r⟩
    obtain ⟨d', e2, e3⟩ := hd hi
    rw [e1] at e2
    cases e2
    rw [e3] at z
    refine ⟨d, env', L', _, r, rl'.step s2 (k2 L' rl'.good), z.2, fun env2 L2 σ2 H4 q2 s3 rl2 => ?_⟩
    refine ⟨env2, L2, _, rl2, q2, ⟨fun env3 L3 σ3 H5 q3 s4 rl3 => ⟨((f.trans s2).trans s3).trans s4, env3, L3, rl3, q3⟩, fun d L' v H' q' s' => er.rt d L' v H' q' ((((s.trans f).trans s2).trans s3).trans s'), fun env' L' σ' H' q' s' rl' => er.nx env' L' σ' H' q' ((((s.trans f).trans s2).trans s3).trans s') rl', fun env3 L3 σ3 H5 q3 s4 rl3 => ⟨((f.trans s2).trans s3).trans s4, env3, L3, rl3, q3⟩⟩⟩
  · rintro σ' H2 ⟨f, env', L', rl', z⟩
    rw [List.drop_length] at z
    exact er.nx env' L' σ' H2 z.2 (s.trans f) rl'
end
end AL
namespace AL
open PySem PySem.Spec PyProof.Rows L2 LamX JW
theorem AOp.mk' {X : Cx} {c : AC X.K} {g : Value → Value → Sem Value} {f : D → D → Store → AQ → Prop} {r : R2} (h : OpR X g r) (k : LowR2 c r f) : AOp X c g f := ⟨r, h, k⟩
def addD : D → D → Store → AQ → Prop
  | .int i, .int j, L, Q => Q (.int (i + j)) L
  | .int i, .bl k, L, Q => Q (.int (i + b2i k)) L
  | .str a, .str b, L, Q => a.length + b.length ≤ sizeLine ∧ Q (.str (a ++ b)) L
  | .tup a, .tup b, L, Q => a.length + b.length ≤ sizeLine ∧ Q (.tup (a ++ b)) L
  | .ref p, .ref q, L, Q => ∃ xs ys, L p = some (.lst xs) ∧ L q = some (.lst ys) ∧ xs.length + ys.length ≤ sizeLine ∧ ∀ r, L r = none → Q (.ref r) (sput L r (.lst (xs ++ ys)))
  | _, _, _, _ => False
def subD : D → D → Store → AQ → Prop
  | .int i, .int j, L, Q => Q (.int (i - j)) L
  | _, _, _, _ => False
def ltD : D → D → Store → AQ → Prop
  | .int i, .int j, L, Q => Q (.bl (decide (i < j))) L
  | .str a, .str b, L, Q => Q (.bl (decide (a.cps.toList < b.cps.toList))) L
  | _, _, _, _ => False
def leD : D → D → Store → AQ → Prop
  | .int i, .int j, L, Q => Q (.bl (decide (i ≤ j))) L
  | .str a, .str b, L, Q => Q (.bl (!decide (b.cps.toList < a.cps.toList))) L
  | _, _, _, _ => False
def gtD : D → D → Store → AQ → Prop
  | .int i, .int j, L, Q => Q (.bl (decide (j < i))) L
  | .str a, .str b, L, Q => Q (.bl (decide (b.cps.toList < a.cps.toList))) L
  | _, _, _, _ => False
def isNonD : D → Bool
  | .non => true
  | _ => false
section
variable {K : PySem.W.Frag} {c : AC K} {H : Hp} {L : Store}
theorem good_lst (g : Good c L H) {p : Addr} {l : List D} (e : L p = some (.lst l)) : ∃ vs, H p = some (.lst vs) ∧ RepL c H l vs := g.st p _ e
theorem isNon_low {d : D} {v : V} (r : Rep c H d v) : decide (v = .non) = isNonD d := by
  cases d with
  | non => cases rep_non.mp r; rfl
  | bl b => cases rep_bl.mp r; rfl
  | int i => cases rep_int.mp r; rfl
  | str s => cases rep_str.mp r; rfl
  | ref p => cases rep_ref.mp r; rfl
  | ty n => cases rep_ty.mp r; rfl
  | scr => obtain ⟨a, ns, _, rfl⟩ := rep_scr.mp r; rfl
  | tree t => exact decide_eq_false (Ftn.ne (rep_tree.mp r))
  | tup l => obtain ⟨a, vs, rfl, _⟩ := rep_tup.mp r; rfl
  | obj C ks ds => obtain ⟨a, dx, vs, rfl, _⟩ := rep_obj.mp r; rfl
  | err C ks ds => obtain ⟨a, vs, rfl, _⟩ := rep_err.mp r; rfl
end
section
variable {X : Cx} {c : AC X.K}
theorem aop_add : AOp X c (binaryOp .Add) addD := by
  refine .mk' ((op_add.or op_add_ib).or (op_add_str.or (op_catA.or op_cat))) fun x y H Q d e L R rx ry g h pq => ?_
  unfold addD at h
  split at h
  · rename_i i j
    exact .inl (.inl ⟨i, j, rep_int.mp rx, rep_int.mp ry, pq.here h g (rep_int.mpr rfl)⟩)
  · rename_i i j
    exact .inl (.inr ⟨i, j, rep_int.mp rx, rep_bl.mp ry, pq.here h g (rep_int.mpr rfl)⟩)
  · rename_i a b
    exact .inr (.inl ⟨a, b, rep_str.mp rx, rep_str.mp ry, h.1, pq.here h.2 g (rep_str.mpr rfl)⟩)
  · rename_i a b
    obtain ⟨hz, h⟩ := h
    obtain ⟨p, vs, rfl, e1, r1⟩ := rep_tup.mp rx
    obtain ⟨q, ws, rfl, e2, r2⟩ := rep_tup.mp ry
    refine .inr (.inr (.inl ⟨p, q, vs, ws, rfl, rfl, e1, e2, by rw [r1.len, r2.len]; exact hz, fun z => ?_, fun _ z => ?_, fun _ _ r hr => ?_⟩))
    · subst z
      have : a = [] := List.eq_nil_of_length_eq_zero (by rw [← r1.len]; rfl)
      subst this
      exact pq.here h g (rep_tup.mpr ⟨q, ws, rfl, e2, r2⟩)
    · subst z
      have : b = [] := List.eq_nil_of_length_eq_zero (by rw [← r2.len]; rfl)
      subst this
      rw [List.append_nil] at h
      exact pq.here h g (rep_tup.mpr ⟨p, vs, rfl, e1, r1⟩)
    · exact pq.new hr h g (rep_tup.mpr ⟨r, _, rfl, SqT.of upd_same, (r1.app r2).fr (.new hr)⟩)
  · rename_i p q
    obtain ⟨xs, ys, h1, h2, hz, h⟩ := h
    obtain ⟨vs, e1, r1⟩ := good_lst g h1
    obtain ⟨ws, e2, r2⟩ := good_lst g h2
    cases rep_ref.mp rx
    cases rep_ref.mp ry
    exact .inr (.inr (.inr ⟨p, q, vs, ws, rfl, rfl, e1, e2, by rw [r1.len, r2.len]; exact hz, fun r hr => pq.alloc hr (h r (g.fresh hr)) g ⟨_, upd_same, (r1.app r2).fr (.new hr)⟩⟩))
  · exact h.elim
theorem aop_sub : AOp X c (binaryOp .Sub) subD := by
  refine .mk' op_sub fun x y H Q d e L R rx ry g h pq => ?_
  unfold subD at h
  split at h
  · rename_i i j
    exact ⟨i, j, rep_int.mp rx, rep_int.mp ry, pq.here h g (rep_int.mpr rfl)⟩
  · exact h.elim
theorem aop_lt : AOp X c (compareOp .Lt) ltD := by
  refine .mk' (op_lt.or op_lt_str) fun x y H Q d e L R rx ry g h pq => ?_
  unfold ltD at h
  split at h
  · rename_i i j
    exact .inl ⟨i, j, rep_int.mp rx, rep_int.mp ry, pq.here h g (rep_bl.mpr rfl)⟩
  · rename_i i j
    exact .inr ⟨i, j, rep_str.mp rx, rep_str.mp ry, pq.here h g (rep_bl.mpr rfl)⟩
  · exact h.elim
theorem aop_le : AOp X c (compareOp .LtE) leD := by
  refine .mk' (op_le.or op_le_str) fun x y H Q d e L R rx ry g h pq => ?_
  unfold leD at h
  split at h
  · rename_i i j
    exact .inl ⟨i, j, rep_int.mp rx, rep_int.mp ry, pq.here h g (rep_bl.mpr rfl)⟩
  · rename_i i j
    exact .inr ⟨i, j, rep_str.mp rx, rep_str.mp ry, pq.here h g (rep_bl.mpr rfl)⟩
  · exact h.elim
theorem aop_gt : AOp X c (compareOp .Gt) gtD := by
  refine .mk' (op_gt.or op_gt_str) fun x y H Q d e L R rx ry g h pq => ?_
  unfold gtD at h
  split at h
  · rename_i i j
    exact .inl ⟨i, j, rep_int.mp rx, rep_int.mp ry, pq.here h g (rep_bl.mpr rfl)⟩
  · rename_i i j
    exact .inr ⟨i, j, rep_str.mp rx, rep_str.mp ry, pq.here h g (rep_bl.mpr rfl)⟩
  · exact h.elim
end
mutual
def pyF : D → Option PyData
  | .non => some .none
  | .bl b => some (.bool b)
  | .int i => some (.int i)
  | .str s => some (.str s)
  | .tup l => (pyFL l).map .tuple
  | _ => none
def pyFL : List D → Option (List PyData)
  | [] => some []
  | d :: ds => match pyF d, pyFL ds with
    | some x, some xs => some (x :: xs)
    | _, _ => none
end
def pyT (L : Store) : D → Option PyData
  | .ref p => match L p with
    | some (.lst l) => (pyFL l).map .list
    | _ => none
  | d => pyF d
section
variable {K : PySem.W.Frag} {c : AC K} {H : Hp} {L : Store}
mutual
theorem dp_of : ∀ (d : D) (v : V) (x : PyData), Rep c H d v → pyF d = some x → Dp K H v x
  | .non, v, x, r, e => by
    cases rep_non.mp r
    simp only [pyF, Option.some.injEq] at e
    subst e
    exact .non
  | .bl b, v, x, r, e => by
    cases rep_bl.mp r
    simp only [pyF, Option.some.injEq] at e
    subst e
    exact .bl b
  | .int i, v, x, r, e => by
    cases rep_int.mp r
    simp only [pyF, Option.some.injEq] at e
    subst e
    exact .int i
  | .str z, v, x, r, e => by
    cases rep_str.mp r
    simp only [pyF, Option.some.injEq] at e
    subst e
    exact .str z
  | .tup l, v, x, r, e => by
    obtain ⟨a, vs, rfl, e1, rs⟩ := rep_tup.mp r
    simp only [pyF, Option.map_eq_some_iff] at e
    obtain ⟨xs, e2, rfl⟩ := e
    exact .tup (e1) (dpL_of l vs xs rs e2)
  | .ref _, v, x, r, e => by simp [pyF] at e
  | .ty _, v, x, r, e => by simp [pyF] at e
  | .scr, v, x, r, e => by simp [pyF] at e
  | .tree _, v, x, r, e => by simp [pyF] at e
  | .obj _ _ _, v, x, r, e => by simp [pyF] at e
  | .err _ _ _, v, x, r, e => by simp [pyF] at e
theorem dpL_of : ∀ (l : List D) (vs : List V) (xs : List PyData), RepL c H l vs → pyFL l = some xs → DpAll K H vs xs
  | [], vs, xs, r, e => by
    cases repL_nil.mp r
    simp only [pyFL, Option.some.injEq] at e
    subst e
    exact .nil
  | d :: ds, vs, xs, r, e => by
    obtain ⟨v, ws, rfl, r1, r2⟩ := repL_cons.mp r
    simp only [pyFL] at e
    split at e
    · rename_i x ys e1 e2
      simp only [Option.some.injEq] at e
      subst e
      exact .cons (dp_of d v x r1 e1) (dpL_of ds ws ys r2 e2)
    · cases e
end
theorem dpT_of (g : Good c L H) {d : D} {v : V} {x : PyData} (r : Rep c H d v) (e : pyT L d = some x) : Dp K H v x := by
  cases d with
  | ref p =>
    cases rep_ref.mp r
    unfold pyT at e
    simp only at e
    split at e
    · rename_i l e1
      obtain ⟨vs, e2, rs⟩ := good_lst g e1
      obtain ⟨xs, e3, rfl⟩ := Option.map_eq_some_iff.mp e
      exact .lst (SqL.of e2) (dpL_of l vs xs rs e3)
    · cases e
  | _ => exact dp_of _ v x r e
end
def eqX (neg : Bool) (d e : D) (L : Store) (Q : AQ) : Prop := ∃ x y, pyT L d = some x ∧ pyT L e = some y ∧ SeqAt.shaped x = true ∧ SeqAt.shaped y = true ∧ Q (.bl (neg ^^ PyData.eqv x y)) L
def eqD (neg : Bool) : D → D → Store → AQ → Prop
  | .int i, .int j, L, Q => Q (.bl (neg ^^ decide (i = j))) L
  | .str i, .str j, L, Q => Q (.bl (neg ^^ decide (i = j))) L
  | .bl i, .bl j, L, Q => Q (.bl (neg ^^ decide (i = j))) L
  | .tree t, .tree u, L, Q => Q (.bl (neg ^^ decide (t = u))) L
  | d, e, L, Q => eqX neg d e L Q
def spEqF (K : PySem.W.Frag) : Sp := fun vs H Q _ => ∃ x y t u, vs = [x, y] ∧ Ftn (cF K) H t x ∧ Ftn (cF K) H u y ∧ Q (.bl (decide (t = u))) H
section
variable {X : Cx} {c : AC X.K} {CX : CXT} {k : Nat} {ps : List Str} {E : XK}
theorem eq_low {neg : Bool} {rS rD rO : R2} (hS : ∀ x y H Q, scal x y = true → Q (.bl (neg ^^ decide (x = y))) H → rS x y H Q)
    (hD : ∀ x y H Q d e, Dp X.K H x d → Dp X.K H y e → SeqAt.shaped d = true → SeqAt.shaped e = true → Q (.bl (neg ^^ PyData.eqv d e)) H → rD x y H Q)
    (hO : ∀ x y H Q t u, Ftn (cF X.K) H t x → Ftn (cF X.K) H u y → Q (.bl (neg ^^ decide (t = u))) H → rO x y H Q) : LowR2 c (fun x y H Q => rS x y H Q ∨ (rD x y H Q ∨ rO x y H Q)) (eqD neg) := by
  intro x y H Q d e L R rx ry g h pq
  have gen : eqX neg d e L R → (rS x y H Q ∨ (rD x y H Q ∨ rO x y H Q)) := fun ⟨a, b, e1, e2, s1, s2, q⟩ =>
    .inr (.inl (hD x y H Q a b (dpT_of g rx e1) (dpT_of g ry e2) s1 s2 (pq.here q g (rep_bl.mpr rfl))))
  unfold eqD at h
  split at h
  · rename_i i j
    cases rep_int.mp rx
    cases rep_int.mp ry
    refine .inl (hS _ _ H Q rfl ?_)
    have : decide (V.int i = V.int j) = decide (i = j) := by
      by_cases z : i = j
      · subst z; simp
      · rw [decide_eq_false z, decide_eq_false fun q => z (V.int.inj q)]
    rw [this]
    exact pq.here h g (rep_bl.mpr rfl)
  · rename_i i j
    cases rep_str.mp rx
    cases rep_str.mp ry
    refine .inl (hS _ _ H Q rfl ?_)
    have : decide (V.str i = V.str j) = decide (i = j) := by
      by_cases z : i = j
      · subst z; simp
      · rw [decide_eq_false z, decide_eq_false fun q => z (V.str.inj q)]
    rw [this]
    exact pq.here h g (rep_bl.mpr rfl)
  · rename_i i j
    cases rep_bl.mp rx
    cases rep_bl.mp ry
    refine .inl (hS _ _ H Q rfl ?_)
    have : decide (V.bl i = V.bl j) = decide (i = j) := by
      by_cases z : i = j
      · subst z; simp
      · rw [decide_eq_false z, decide_eq_false fun q => z (V.bl.inj q)]
    rw [this]
    exact pq.here h g (rep_bl.mpr rfl)
  · rename_i t u
    exact .inr (.inr (hO x y H Q t u (rep_tree.mp rx) (rep_tree.mp ry) (pq.here h g (rep_bl.mpr rfl))))
  · exact gen h
theorem ftn_ins {H : Hp} {t : T} {x : V} (h : Ftn (cF X.K) H t x) : ∃ a dx fs, x = .ref a ∧ H a = some (.ins (cF X.K) dx fs) := by
  obtain ⟨a, dx, b, n, vs, rfl, h1, _⟩ := ftn_iff.mp h
  exact ⟨a, dx, _, rfl, h1⟩
theorem aop_eq (M : MethD X.prog X.w X.K X.mg X.base CX0 k (cF X.K) "__eq__" ps [] (spEqF X.K)) (hr : Room (k + 1) X.A) (hu : X.A.units + 64 < cLine) : AOp X c (compareOp .Eq) (eqD false) := by
  refine .mk' (op_eq.or ((op_eqD hu).or (op_own_eq (E := fun _ _ _ => True) M (hr.mono (Nat.le_succ k)) pass0))) (eq_low (fun x y H Q s q => ⟨s, by rw [Bool.false_xor] at q; exact q⟩) (fun x y H Q d e h1 h2 s1 s2 q => ⟨d, e, h1, h2, s1, s2, by rw [Bool.false_xor] at q; exact q⟩) fun x y H Q t u h1 h2 q => ?_)
  obtain ⟨a, dx, fs, rfl, e1⟩ := ftn_ins h1
  obtain ⟨b, dy, gs, rfl, e2⟩ := ftn_ins h2
  exact ⟨a, dx, fs, b, dy, gs, rfl, rfl, e1, e2, _, _, t, u, rfl, h1, h2, _, rfl, by rw [Bool.false_xor] at q; simpa using q⟩
theorem aop_ne (cl : ClsF X.K X.mg) (M : MethD X.prog X.w X.K X.mg X.base CX0 k (cF X.K) "__eq__" ps [] (spEqF X.K)) (hr : Room (k + 1) X.A) (hu : X.A.units + 64 < cLine) : AOp X c (compareOp .NotEq) (eqD true) := by
  refine .mk' (op_ne.or ((op_neD hu).or (op_own_ne (E := fun _ _ _ => True) cl.hne cl.hob M hr pass0))) (eq_low (fun x y H Q s q => ⟨s, by rw [Bool.true_xor] at q; exact q⟩) (fun x y H Q d e h1 h2 s1 s2 q => ⟨d, e, h1, h2, s1, s2, by rw [Bool.true_xor] at q; exact q⟩) fun x y H Q t u h1 h2 q => ?_)
  obtain ⟨a, dx, fs, rfl, e1⟩ := ftn_ins h1
  obtain ⟨b, dy, gs, rfl, e2⟩ := ftn_ins h2
  exact ⟨a, dx, fs, b, dy, gs, rfl, rfl, e1, e2, _, _, t, u, rfl, h1, h2, _, rfl, by rw [Bool.true_xor] at q; simpa using q⟩
end
def flatB : D → Bool
  | .non | .bl _ | .int _ | .str _ => true
  | _ => false
def vD : D → V
  | .bl b => .bl b
  | .int i => .int i
  | .str s => .str s
  | _ => .non
def inL (d : D) (l : List D) : Bool := l.any fun y => eqV (vD y) (vD d)
def inD (neg : Bool) : D → D → Store → AQ → Prop
  | .str a, .str b, L, Q => Q (.bl (neg ^^ !(Builtin.Str.occurrences b a 0 b.length 1).isEmpty)) L
  | d, .tup l, L, Q => flatB d = true ∧ l.all flatB = true ∧ Q (.bl (neg ^^ inL d l)) L
  | d, .ref p, L, Q => ∃ l, L p = some (.lst l) ∧ flatB d = true ∧ l.all flatB = true ∧ Q (.bl (neg ^^ inL d l)) L
  | _, _, _, _ => False
section
variable {K : PySem.W.Frag} {c : AC K} {H : Hp} {L : Store}
theorem flat_low {d : D} {v : V} (r : Rep c H d v) (h : flatB d = true) : v = vD d ∧ flatV v = true := by
  cases d with
  | non => cases rep_non.mp r; exact ⟨rfl, rfl⟩
  | bl b => cases rep_bl.mp r; exact ⟨rfl, rfl⟩
  | int i => cases rep_int.mp r; exact ⟨rfl, rfl⟩
  | str s => cases rep_str.mp r; exact ⟨rfl, rfl⟩
  | _ => cases h
theorem flatL_low : ∀ {l : List D} {vs : List V}, RepL c H l vs → l.all flatB = true → vs = l.map vD ∧ vs.all flatV = true
  | [], vs, r, _ => by cases repL_nil.mp r; exact ⟨rfl, rfl⟩
  | d :: ds, vs, r, h => by
    obtain ⟨v, ws, rfl, r1, r2⟩ := repL_cons.mp r
    rw [List.all_cons, Bool.and_eq_true] at h
    obtain ⟨e1, f1⟩ := flat_low r1 h.1
    obtain ⟨e2, f2⟩ := flatL_low r2 h.2
    subst e1 e2
    exact ⟨rfl, by rw [List.all_cons, f1, f2]; rfl⟩
theorem in_low {d : D} {x : V} {l : List D} {vs : List V} (rx : Rep c H d x) (rs : RepL c H l vs) (h1 : flatB d = true) (h2 : l.all flatB = true) : flatV x = true ∧ vs.all flatV = true ∧ inV x vs = inL d l := by
  obtain ⟨e1, f1⟩ := flat_low rx h1
  obtain ⟨e2, f2⟩ := flatL_low rs h2
  refine ⟨f1, f2, ?_⟩
  rw [e1, e2]
  unfold inV inL
  rw [List.any_map]
  rfl
end
section
variable {X : Cx} {c : AC X.K}
theorem aop_in : AOp X c (compareOp .In) (inD false) := by
  refine .mk' (op_in_str.or op_in_seq) fun x y H Q d e L R rx ry g h pq => ?_
  unfold inD at h
  split at h
  · exact .inl ⟨_, _, rep_str.mp rx, rep_str.mp ry, by rw [Bool.false_xor] at h; exact pq.here h g (rep_bl.mpr rfl)⟩
  · rename_i l
    obtain ⟨p, vs, rfl, e1, rs⟩ := rep_tup.mp ry
    obtain ⟨f1, f2, f3⟩ := in_low rx rs h.1 h.2.1
    exact .inr ⟨p, vs, rfl, .inr (e1), f1, f2, pq.here (by simpa [f3] using h.2.2) g (rep_bl.mpr (by simp [f3]))⟩
  · rename_i p
    obtain ⟨l, e1, h1, h2, h⟩ := h
    obtain ⟨vs, e2, rs⟩ := good_lst g e1
    cases rep_ref.mp ry
    obtain ⟨f1, f2, f3⟩ := in_low rx rs h1 h2
    exact .inr ⟨p, vs, rfl, .inl (SqL.of e2), f1, f2, pq.here (by simpa [f3] using h) g (rep_bl.mpr (by simp [f3]))⟩
  · exact h.elim
end
def ixD : D → D → Store → AQ → Prop
  | .tup l, .int i, L, Q => ∃ d, atI l i = some d ∧ Q d L
  | .ref p, .int i, L, Q => ∃ l d, L p = some (.lst l) ∧ atI l i = some d ∧ Q d L
  | .str z, .int i, L, Q => z.length ≤ sizeLine ∧ ∃ c, atI z.cps.toList i = some c ∧ Q (.str ⟨#[c]⟩) L
  | _, _, _, _ => False
theorem atI_low {K : PySem.W.Frag} {c : AC K} {H : Hp} {l : List D} {vs : List V} {i : Int} {d : D} (rs : RepL c H l vs) (h : atI l i = some d) : ∃ v, atI vs i = some v ∧ Rep c H d v := by
  unfold atI at h ⊢
  rw [rs.len]
  cases e : ixN l.length i with
  | none => rw [e] at h; cases h
  | some j =>
    rw [e] at h
    exact rs.get h
section
variable {X : Cx} {c : AC X.K} {H0 : Hp} {e f : Expr} {a b : ATE} {pos p2 : Pos}
theorem ae_ix (ha : AE X c H0 e a) (hb : AE X c H0 f b) (hs : PlainIx f) : AE X c H0 (.Subscript e f pos) (aOp ixD a b) := by
  refine (pe_ix ix_seq ha hb hs).imp fun σ H Q q => low_op (fun x y H Q d e L R rx ry g h pq => ?_) q
  unfold ixD at h
  split at h
  · rename_i l i
    obtain ⟨d, h1, h⟩ := h
    obtain ⟨p, vs, rfl, e1, rs⟩ := rep_tup.mp rx
    obtain ⟨v, e2, r⟩ := atI_low rs h1
    exact .inr (.inl ⟨p, vs, i, v, rfl, rep_int.mp ry, e1, e2, pq.here h g r⟩)
  · rename_i p i
    obtain ⟨l, d, h0, h1, h⟩ := h
    obtain ⟨vs, e1, rs⟩ := good_lst g h0
    cases rep_ref.mp rx
    obtain ⟨v, e2, r⟩ := atI_low rs h1
    exact .inl ⟨p, vs, i, v, rfl, rep_int.mp ry, SqL.of e1, e2, pq.here h g r⟩
  · rename_i z i
    obtain ⟨hz, k, h1, h⟩ := h
    exact .inr (.inr ⟨z, i, k, rep_str.mp rx, rep_int.mp ry, hz, h1, pq.here h g (rep_str.mpr rfl)⟩)
  · exact h.elim
end
abbrev ATO := En → Store → (Option Int → Store → Prop) → Prop
def lowO {K : PySem.W.Frag} (c : AC K) (H0 : Hp) (a : ATO) : TO := fun σ H Q => ∃ env L R, Rl c H0 σ H env L ∧ a env L R ∧ ∀ b L' H', R b L' → Fr c H H' → Good c L' H' → Q b H'
def AO (X : Cx) (c : AC X.K) (H0 : Hp) (e : Option Expr) (a : ATO) : Prop := PO X e (lowO c H0 a)
def aoNone : ATO := fun _ L Q => Q none L
def intD : D → (Int → Prop) → Prop
  | .int i, Q => Q i
  | _, _ => False
def aoSome (a : ATE) : ATO := fun env L Q => a env L fun d L1 => intD d fun i => Q (some i) L1
theorem int_low {K : PySem.W.Frag} {c : AC K} {H : Hp} {d : D} {v : V} {R : Int → Prop} (r : Rep c H d v) (h : intD d R) : ∃ k, v = .int k ∧ R k := by
  cases d with
  | int b => exact ⟨b, rep_int.mp r, h⟩
  | _ => exact h.elim
def cutD (l : List D) (lo hi : Option Int) : List D := (l.drop (HT.sIx l.length 0 lo)).take (HT.sIx l.length l.length hi - HT.sIx l.length 0 lo)
def slD : D → Option Int → Option Int → Store → AQ → Prop
  | .tup l, lo, hi, L, Q => Q (.tup (cutD l lo hi)) L
  | .ref p, lo, hi, L, Q => ∃ l, L p = some (.lst l) ∧ ∀ q, L q = none → Q (.ref q) (sput L q (.lst (cutD l lo hi)))
  | .str z, lo, hi, L, Q => z.length ≤ sizeLine ∧ Q (.str (cutS z lo hi)) L
  | _, _, _, _, _ => False
def aSl (a : ATE) (lo hi : ATO) : ATE := fun env L Q => a env L fun d L1 => lo env L1 fun l L2 => hi env L2 fun h L3 => slD d l h L3 Q
theorem cut_low {K : PySem.W.Frag} {c : AC K} {H : Hp} {l : List D} {vs : List V} {lo hi : Option Int} (rs : RepL c H l vs) : RepL c H (cutD l lo hi) (cutV vs lo hi) := by
  unfold cutD cutV
  rw [rs.len]
  exact (rs.drop _).take _
section
variable {X : Cx} {c : AC X.K} {H0 : Hp} {e : Expr} {lo hi : Option Expr} {a : ATE} {ol oh : ATO} {pos p2 : Pos}
theorem ao_none : AO X c H0 none aoNone := ⟨fun pins s σ H Q I h => po_none.run pins s σ H Q I (by
  obtain ⟨env, L, R, rl, h, pq⟩ := h
  exact pq none L H h (.refl c H) rl.good)⟩
theorem ao_some (h : AE X c H0 e a) : AO X c H0 (some e) (aoSome a) := ⟨fun pins s σ H Q I q => (po_some h).run pins s σ H Q I (by
  obtain ⟨env, L, R, rl, h, pq⟩ := q
  refine ⟨env, L, _, rl, h, fun d L1 x H1 q s1 g1 r1 => ?_⟩
  obtain ⟨k, e1, e2⟩ := int_low (R := fun i => R (some i) L1) r1 q
  exact ⟨k, e1, pq _ L1 H1 e2 s1 g1⟩)⟩
theorem ae_sl (he : AE X c H0 e a) (hl : AO X c H0 lo ol) (hh : AO X c H0 hi oh) : AE X c H0 (.Subscript e (.Slice lo hi none p2) pos) (aSl a ol oh) := by
  refine (pe_slice (sl_list.or (sl_tupA.or sl_str)) he hl hh).imp fun σ H Q ⟨env, L, R, rl, h, pq⟩ => ?_
  refine ⟨env, L, _, rl, h, fun d L1 x H1 q s1 g1 r1 => ?_⟩
  refine ⟨env, L1, _, rl.step s1 g1, q, fun l L2 H2 q2 s2 g2 => ?_⟩
  refine ⟨env, L2, _, rl.step (s1.trans s2) g2, q2, fun u L3 H3 q3 s3 g3 => ?_⟩
  have pq3 := pq.fr ((s1.trans s2).trans s3)
  have rx := r1.fr (s2.trans s3)
  unfold slD at q3
  split at q3
  · rename_i ds
    obtain ⟨p, vs, rfl, e1, rs⟩ := rep_tup.mp rx
    refine .inr (.inl ⟨p, vs, rfl, e1, fun hw => ?_, fun _ r hr => pq3.new hr q3 g3 (rep_tup.mpr ⟨r, _, rfl, SqT.of upd_same, (cut_low rs).fr (.new hr)⟩)⟩)
    have ec : cutD ds l u = ds := by
      unfold cutD
      have h1 := hw.1
      have h2 := hw.2
      rw [rs.len] at h1 h2
      rw [h1, h2, List.drop_zero, Nat.sub_zero, List.take_length]
    have q3 : R (.tup (cutD ds l u)) L3 := q3
    rw [ec] at q3
    exact pq3.here q3 g3 rx
  · rename_i p
    obtain ⟨ds, e0, q3⟩ := q3
    obtain ⟨vs, e1, rs⟩ := good_lst g3 e0
    cases rep_ref.mp rx
    exact .inl ⟨p, vs, rfl, SqL.of e1, fun r hr => pq3.alloc hr (q3 r (g3.fresh hr)) g3 ⟨_, upd_same, (cut_low rs).fr (.new hr)⟩⟩
  · rename_i z
    exact .inr (.inr ⟨z, rep_str.mp rx, q3.1, pq3.here q3.2 g3 (rep_str.mpr rfl)⟩)
  · exact q3.elim
end
def aCall (asp : ASp) (as : ATA) : ATE := fun env L Q => as env L fun ds L1 => asp ds L1 Q anyX
def aCallX (asp : ASp) (RX : AX) (as : ATA) : ATE := fun env L Q => as env L fun ds L1 => asp ds L1 Q RX
def withD (dd : List D) (asp : ASp) : ASp := fun ds L Q RX => asp (ds ++ dd) L Q RX
section
variable {X : Cx} {c : AC X.K} {H0 : Hp} {e o : Expr} {es : List Expr} {a : ATE} {as : ATA} {x m : Str} {p pos apos : Pos} {k : Nat} {ps : List Str} {asp : ASp} {CX : CXT} {E : XK} {RX : AX} {dvs : List V} {dd : List D} {C : Addr}
theorem low_call {σ : L2.St} {H : Hp} {Q : VK} (hd : ∀ H, RepL c H dd dvs) (q : lowE c H0 (aCallX (withD dd asp) RX as) σ H Q) (hE : ∀ H1, Fr c H H1 → Px c H1 RX E) : tCall (spA c asp) dvs E (lowA c H0 as) σ H Q := by
  obtain ⟨env, L, R, rl, h, pq⟩ := q
  exact ⟨env, L, _, rl, h, fun ds L1 vs H1 q s1 g1 r1 => ⟨ds ++ dd, L1, R, RX, r1.app (hd H1), g1, q, pq.fr s1, hE H1 s1⟩⟩
theorem px_any {H : Hp} : Px c H anyX (fun _ _ _ => True) := fun _ _ _ _ _ _ _ _ _ => trivial
theorem ae_call (C : CallD X.prog X.w X.K X.mg X.base CX0 k x ps [] (spA c asp)) (hr : Room k X.A) (hg : Gl X x) (ha : AA X c H0 (e :: es) as) (hdb : (x == ("__debug__" : Str)) = false := by decide)
    (he : starEach (e :: es) X.env = (false, eval e X.env) :: starEach es X.env := by rfl) (hpl : (backTo pos (starEach es X.env)).any (·.1) = false := by rfl) : AE X c H0 (.Call (.Name x p) (e :: es) [] pos) (aCall asp as) := by
  refine (pe_callD (E := fun _ _ _ => True) C hr hg pass0 ha hdb he hpl).imp fun σ H Q q => low_call (dd := []) (RX := anyX) (fun _ => RepL.nil) ?_ fun _ _ => px_any
  obtain ⟨env, L, R, rl, h, pq⟩ := q
  refine ⟨env, L, R, rl, ?_, pq⟩
  have h : as env L fun ds L1 => asp ds L1 R anyX := h
  unfold aCallX withD
  simpa using h
end
def LowC {K : PySem.W.Frag} (c : AC K) (r : List V → Hp → VK → Prop) (f : List D → Store → AQ → Prop) : Prop := ∀ vs H Q ds L R, RepL c H ds vs → Good c L H → f ds L R → Pq c H R Q → r vs H Q
structure ACB (X : Cx) (c : AC X.K) (g : Value) (f : List D → Store → AQ → Prop) : Prop where
  ex : ∃ r, CallR X g r ∧ LowC c r f
def aB (f : List D → Store → AQ → Prop) (as : ATA) : ATE := fun env L Q => as env L fun ds L1 => f ds L1 Q
section
variable {X : Cx} {c : AC X.K} {H0 : Hp} {e o : Expr} {es : List Expr} {a : ATE} {as : ATA} {x m : Str} {p pos apos : Pos} {id T : String} {f : List D → Store → AQ → Prop}
theorem ACB.mk' {g : Value} {r : List V → Hp → VK → Prop} (h : CallR X g r) (k : LowC c r f) : ACB X c g f := ⟨r, h, k⟩
theorem low_cb {r : List V → Hp → VK → Prop} (h : LowC c r f) {σ : L2.St} {H : Hp} {Q : VK} (q : lowE c H0 (aB f as) σ H Q) : tCB r (lowA c H0 as) σ H Q := by
  obtain ⟨env, L, R, rl, k, pq⟩ := q
  exact ⟨env, L, _, rl, k, fun ds L1 vs H1 q s1 g1 r1 => h vs H1 Q ds L1 R r1 g1 q (pq.fr s1)⟩
theorem ae_b (hc : ACB X c (.builtin id) f) (hg : Gl X x) (hm : X.mg x = none) (hv : bootBuiltins x = some (.builtin id)) (ha : AA X c H0 (e :: es) as) (hn : x ≠ "__name__" := by decide) (hdb : (x == ("__debug__" : Str)) = false := by decide)
    (he : starEach (e :: es) X.env = (false, eval e X.env) :: starEach es X.env := by rfl) (hpl : (backTo pos (starEach es X.env)).any (·.1) = false := by rfl) : AE X c H0 (.Call (.Name x p) (e :: es) [] pos) (aB f as) := by
  obtain ⟨r, h1, h2⟩ := hc.ex
  exact (pe_callB h1 hg hm hv ha hn hdb he hpl).imp fun _ _ _ q => low_cb h2 q
theorem ae_ty (hc : ACB X c (.type T) f) (hg : Gl X x) (hm : X.mg x = none) (hv : bootBuiltins x = some (.type T)) (ha : AA X c H0 (e :: es) as) (hn : x ≠ "__name__" := by decide) (hdb : (x == ("__debug__" : Str)) = false := by decide)
    (he : starEach (e :: es) X.env = (false, eval e X.env) :: starEach es X.env := by rfl) (hpl : (backTo pos (starEach es X.env)).any (·.1) = false := by rfl) : AE X c H0 (.Call (.Name x p) (e :: es) [] pos) (aB f as) := by
  obtain ⟨r, h1, h2⟩ := hc.ex
  exact (pe_callTy h1 hg hm hv ha hn hdb he hpl).imp fun _ _ _ q => low_cb h2 q
end
def lenD : List D → Store → AQ → Prop
  | [.str z], L, Q => z.length ≤ sizeLine ∧ Q (.int z.length) L
  | [.tup l], L, Q => Q (.int l.length) L
  | [.ref p], L, Q => ∃ l, L p = some (.lst l) ∧ Q (.int l.length) L
  | [.scr], L, Q => ∀ n : Nat, n ≤ 63 → Q (.int n) L
  | _, _, _ => False
def maxD : List D → Store → AQ → Prop
  | [.ref p], L, Q => ∃ ns : List Int, L p = some (.lst (ns.map D.int)) ∧ 0 < ns.length ∧ ∀ m, m ∈ ns → (∀ y, y ∈ ns → y ≤ m) → Q (.int m) L
  | [.int i, .int j], L, Q => Q (.int (if j > i then j else i)) L
  | _, _, _ => False
def minD : List D → Store → AQ → Prop
  | [.ref p], L, Q => ∃ ns : List Int, L p = some (.lst (ns.map D.int)) ∧ 0 < ns.length ∧ ∀ m, m ∈ ns → (∀ y, y ∈ ns → m ≤ y) → Q (.int m) L
  | [.int i, .int j], L, Q => Q (.int (if j < i then j else i)) L
  | _, _, _ => False
def listD : List D → Store → AQ → Prop
  | [.tup l], L, Q => ∀ r, L r = none → Q (.ref r) (sput L r (.lst l))
  | [.ref p], L, Q => ∃ l, L p = some (.lst l) ∧ ∀ r, L r = none → Q (.ref r) (sput L r (.lst l))
  | _, _, _ => False
def tupD : List D → Store → AQ → Prop
  | [.tup l], L, Q => Q (.tup l) L
  | [.ref p], L, Q => ∃ l, L p = some (.lst l) ∧ Q (.tup l) L
  | _, _, _ => False
section
variable {K : PySem.W.Frag} {c : AC K}
theorem repL_one {H : Hp} {d : D} {vs : List V} (r : RepL c H [d] vs) : ∃ v, vs = [v] ∧ Rep c H d v := by
  obtain ⟨v, ws, rfl, r1, r2⟩ := repL_cons.mp r
  cases repL_nil.mp r2
  exact ⟨v, rfl, r1⟩
theorem repL_two {H : Hp} {d e : D} {vs : List V} (r : RepL c H [d, e] vs) : ∃ v w, vs = [v, w] ∧ Rep c H d v ∧ Rep c H e w := by
  obtain ⟨v, ws, rfl, r1, r2⟩ := repL_cons.mp r
  obtain ⟨w, rfl, r3⟩ := repL_one r2
  exact ⟨v, w, rfl, r1, r3⟩
end
section
variable {X : Cx} {c : AC X.K}
theorem acb_len : ACB X c (.builtin "len") lenD := by
  refine .mk' call_len fun vs H Q ds L R r g h pq => ?_
  unfold lenD at h
  split at h
  · rename_i z
    obtain ⟨v, rfl, r1⟩ := repL_one r
    cases rep_str.mp r1
    exact ⟨_, _, rfl, ⟨h.1, rfl⟩, pq.here h.2 g (rep_int.mpr rfl)⟩
  · rename_i l
    obtain ⟨v, rfl, r1⟩ := repL_one r
    obtain ⟨p, ws, rfl, e1, rs⟩ := rep_tup.mp r1
    exact ⟨_, l.length, rfl, .inr ⟨ws, e1, rs.len.symm⟩, pq.here h g (rep_int.mpr rfl)⟩
  · rename_i p
    obtain ⟨l, e0, h⟩ := h
    obtain ⟨v, rfl, r1⟩ := repL_one r
    cases rep_ref.mp r1
    obtain ⟨ws, e1, rs⟩ := good_lst g e0
    exact ⟨_, l.length, rfl, .inl ⟨ws, SqL.of e1, rs.len.symm⟩, pq.here h g (rep_int.mpr rfl)⟩
  · obtain ⟨v, rfl, r1⟩ := repL_one r
    obtain ⟨a, ns, e1, rfl⟩ := rep_scr.mp r1
    exact ⟨_, ns.length, rfl, .inl ⟨_, g.seq e1, by rw [List.length_map]⟩, pq.here (h ns.length (g.scr a ns e1).1) g (rep_int.mpr rfl)⟩
  · exact h.elim
theorem acb_max (hc : X.calm = true) : ACB X c (.builtin "max") maxD := by
  refine .mk' ((cr_max hc).or (call_max2 hc)) fun vs H Q ds L R r g h pq => ?_
  unfold maxD at h
  split at h
  · rename_i p
    obtain ⟨ns, e0, hl, h⟩ := h
    obtain ⟨v, rfl, r1⟩ := repL_one r
    cases rep_ref.mp r1
    obtain ⟨ws, e1, rs⟩ := good_lst g e0
    rw [RepL.ints.mp rs] at e1
    exact .inl ⟨p, ns, rfl, SqL.of e1, hl, fun m h1 h2 => pq.here (h m h1 h2) g (rep_int.mpr rfl)⟩
  · rename_i i j
    obtain ⟨v, w, rfl, r1, r2⟩ := repL_two r
    cases rep_int.mp r1
    cases rep_int.mp r2
    exact .inr ⟨i, j, rfl, pq.here h g (rep_int.mpr rfl)⟩
  · exact h.elim
theorem acb_min (hc : X.calm = true) : ACB X c (.builtin "min") minD := by
  refine .mk' ((cr_min hc).or (call_min2 hc)) fun vs H Q ds L R r g h pq => ?_
  unfold minD at h
  split at h
  · rename_i p
    obtain ⟨ns, e0, hl, h⟩ := h
    obtain ⟨v, rfl, r1⟩ := repL_one r
    cases rep_ref.mp r1
    obtain ⟨ws, e1, rs⟩ := good_lst g e0
    rw [RepL.ints.mp rs] at e1
    exact .inl ⟨p, ns, rfl, SqL.of e1, hl, fun m h1 h2 => pq.here (h m h1 h2) g (rep_int.mpr rfl)⟩
  · rename_i i j
    obtain ⟨v, w, rfl, r1, r2⟩ := repL_two r
    cases rep_int.mp r1
    cases rep_int.mp r2
    exact .inr ⟨i, j, rfl, pq.here h g (rep_int.mpr rfl)⟩
  · exact h.elim
theorem acb_list : ACB X c (.type "list") listD := by
  refine .mk' call_list_of fun vs H Q ds L R r g h pq => ?_
  unfold listD at h
  split at h
  · rename_i l
    obtain ⟨v, rfl, r1⟩ := repL_one r
    obtain ⟨p, ws, rfl, e1, rs⟩ := rep_tup.mp r1
    exact ⟨p, ws, rfl, .inr (e1), fun q hq => pq.alloc hq (h q (g.fresh hq)) g ⟨ws, upd_same, rs.fr (.new hq)⟩⟩
  · rename_i p
    obtain ⟨l, e0, h⟩ := h
    obtain ⟨v, rfl, r1⟩ := repL_one r
    cases rep_ref.mp r1
    obtain ⟨ws, e1, rs⟩ := good_lst g e0
    exact ⟨p, ws, rfl, .inl (SqL.of e1), fun q hq => pq.alloc hq (h q (g.fresh hq)) g ⟨ws, upd_same, rs.fr (.new hq)⟩⟩
  · exact h.elim
theorem acb_tup : ACB X c (.type "tuple") tupD := by
  refine .mk' call_tuple_of fun vs H Q ds L R r g h pq => ?_
  unfold tupD at h
  split at h
  · rename_i l
    obtain ⟨v, rfl, r1⟩ := repL_one r
    obtain ⟨p, ws, rfl, e1, rs⟩ := rep_tup.mp r1
    exact ⟨p, ws, rfl, .inr ⟨e1, pq.here h g r1⟩⟩
  · rename_i p
    obtain ⟨l, e0, h⟩ := h
    obtain ⟨v, rfl, r1⟩ := repL_one r
    cases rep_ref.mp r1
    obtain ⟨ws, e1, rs⟩ := good_lst g e0
    exact ⟨p, ws, rfl, .inl ⟨SqL.of e1, fun q hq => pq.new hq h g (rep_tup.mpr ⟨q, ws, rfl, SqT.of upd_same, rs.fr (.new hq)⟩)⟩⟩
  · exact h.elim
end
end AL
namespace AL
open PySem PySem.Spec PyProof.Rows L2 LamX JW
def treeD : D → (T → Prop) → Prop
  | .tree t, Q => Q t
  | _, _ => False
def aProp (g : T → D) (a : ATE) : ATE := fun env L Q => a env L fun d L1 => treeD d fun t => Q (g t) L1
theorem tree_low {K : PySem.W.Frag} {c : AC K} {H : Hp} {d : D} {v : V} {R : T → Prop} (r : Rep c H d v) (h : treeD d R) : ∃ t, Ftn (cF K) H t v ∧ R t := by
  cases d with
  | tree t => exact ⟨t, rep_tree.mp r, h⟩
  | _ => exact h.elim
theorem _root_.JW.CallD.imp {P : Program} {w : World} {K : PySem.W.Frag} {mg : Str → Option Value} {base : Heap} {CX : CXT} {k : Nat} {x : Str} {ps : List Str} {dvs : List V} {sp sp' : Sp} (C : CallD P w K mg base CX k x ps dvs sp) (h : ∀ vs H Q E, sp' vs H Q E → sp vs H Q E) : CallD P w K mg base CX k x ps dvs sp' := by
  obtain ⟨f, fd, ds, h1, h2, h3, h4, F⟩ := C.ex
  exact ⟨f, fd, ds, h1, h2, h3, h4, F.imp h⟩
theorem _root_.JW.MethD.imp {P : Program} {w : World} {K : PySem.W.Frag} {mg : Str → Option Value} {base : Heap} {CX : CXT} {k : Nat} {C : Addr} {x : Str} {ps : List Str} {dvs : List V} {sp sp' : Sp} (M : MethD P w K mg base CX k C x ps dvs sp) (h : ∀ vs H Q E, sp' vs H Q E → sp vs H Q E) : MethD P w K mg base CX k C x ps dvs sp' := by
  obtain ⟨f, fd, ds, h1, h2, h3, F⟩ := M.ex
  exact ⟨f, fd, ds, h1, h2, h3, F.imp h⟩
theorem _root_.JW.MakeD.imp {P : Program} {w : World} {K : PySem.W.Frag} {mg : Str → Option Value} {base : Heap} {CX : CXT} {k : Nat} {C : Addr} {x : Str} {ps : List Str} {dvs : List V} {sp sp' : Sp} (M : MakeD P w K mg base CX k x C ps dvs sp) (h : ∀ vs H Q E, sp' vs H Q E → sp vs H Q E) : MakeD P w K mg base CX k x C ps dvs sp' := by
  obtain ⟨f, fd, ds, h1, h2, h3, h4, F⟩ := M.ex
  exact ⟨f, fd, ds, h1, h2, h3, h4, F.imp h⟩
section
variable {X : Cx} {c : AC X.K} {H0 : Hp} {e o : Expr} {es : List Expr} {a b : ATE} {as : ATA} {x m f : Str} {p pos apos : Pos} {k : Nat} {ps : List Str} {asp : ASp} {CX : CXT} {E : XK} {RX : AX}
theorem ae_prop {g : T → D} {fV : T → V} (cl : Cls X.K (cF X.K)) (M : PropD X.prog X.w X.K X.mg X.base CX0 k (cF X.K) f (spV X.K fV)) (hg : ∀ H t, Rep c H (g t) (fV t)) (hr : Room (k + 1) X.A) (he : AE X c H0 e a) (hab : attributeBase e f X.env (eval e X.env) = eval e X.env) : AE X c H0 (.Attribute e f pos) (aProp g a) := by
  refine (pe_propD (E := fun _ _ _ => True) cl M hr pass0 he hab).imp fun σ H Q ⟨env, L, R, rl, h, pq⟩ => ?_
  refine ⟨env, L, _, rl, h, fun d L1 x H1 q s1 g1 r1 => ?_⟩
  obtain ⟨t, hf, q⟩ := tree_low (R := fun t => R (g t) L1) r1 q
  obtain ⟨p, dx, b, n, vs, rfl, h1, _⟩ := ftn_iff.mp hf
  exact ⟨p, dx, _, rfl, h1, _, t, rfl, hf, (pq.fr s1).here q g1 (hg H1 t)⟩
theorem non_low {d : D} {v : V} {H : Hp} (r : Rep c H d v) (h : isNonD d = false) : v ≠ .non := by
  have := isNon_low r
  rw [h] at this
  exact of_decide_eq_false this
theorem ae_make {C : Addr} {dvs : List V} {sp : Sp} {dd : List D} (M : MakeD X.prog X.w X.K X.mg X.base CX0 k x C ps dvs sp) (hr : Room (k + 1) X.A) (hg : Gl X x) (ha : AA X c H0 (e :: es) as)
    (hsp : ∀ ds vs H L R Q, RepL c H ds vs → Good c L H → asp ds L R anyX → Pq c H R Q → ∀ x dx, H x = none → H dx = none → dx ≠ x → sp (.ref x :: (vs ++ dvs)) (upd (upd H dx (.own x)) x (.ins C dx [])) (fun v H2 => v = .non ∧ Q (.ref x) H2) (fun _ _ _ => True))
    (hdb : (x == ("__debug__" : Str)) = false := by decide) (he : starEach (e :: es) X.env = (false, eval e X.env) :: starEach es X.env := by rfl) (hpl : (backTo pos (starEach es X.env)).any (·.1) = false := by rfl) : AE X c H0 (.Call (.Name x p) (e :: es) [] pos) (aCall asp as) := by
  refine (pe_makeD (E := fun _ _ _ => True) M hr hg pass0 ha hdb he hpl).imp fun σ H Q ⟨env, L, R, rl, h, pq⟩ => ?_
  exact ⟨env, L, _, rl, h, fun ds L1 vs H1 q s1 g1 r1 x dx hx hdx ne => hsp ds vs H1 L1 R Q r1 g1 q (pq.fr s1) x dx hx hdx ne⟩
end
def LowM {K : PySem.W.Frag} (c : AC K) (r : V → List V → Hp → VK → Prop) (f : D → List D → Store → AQ → Prop) : Prop := ∀ x vs H Q d ds L R, Rep c H d x → RepL c H ds vs → Good c L H → f d ds L R → Pq c H R Q → r x vs H Q
def isLst (d : D) (L : Store) : Prop := ∃ p l, d = .ref p ∧ L p = some (.lst l)
def isStr (d : D) : Prop := ∃ z, d = .str z
def aMl (f : D → List D → Store → AQ → Prop) (a : ATE) (as : ATA) : ATE := fun env L Q => a env L fun d L1 => isLst d L1 ∧ as env L1 fun ds L2 => f d ds L2 Q
def aMs (f : D → List D → Store → AQ → Prop) (a : ATE) (as : ATA) : ATE := fun env L Q => a env L fun d L1 => isStr d ∧ as env L1 fun ds L2 => f d ds L2 Q
def appendD : D → List D → Store → AQ → Prop
  | .ref p, [d], L, Q => ∃ l, L p = some (.lst l) ∧ l.length < sizeLine ∧ Q .non (sput L p (.lst (l ++ [d])))
  | _, _, _, _ => False
def popD : D → List D → Store → AQ → Prop
  | .ref p, [], L, Q => ∃ l d, L p = some (.lst l) ∧ l[l.length - 1]? = some d ∧ Q d (sput L p (.lst l.dropLast))
  | _, _, _, _ => False
def popAtD : D → List D → Store → AQ → Prop
  | .ref p, [.int i], L, Q => ∃ l k d, L p = some (.lst l) ∧ -(2 ^ 63) ≤ i ∧ i < 2 ^ 63 ∧ seqIndex? i l.length = some k ∧ l[k]? = some d ∧ Q d (sput L p (.lst (l.eraseIdx k)))
  | _, _, _, _ => False
def insertD : D → List D → Store → AQ → Prop
  | .ref p, [.int i, d], L, Q => ∃ l, L p = some (.lst l) ∧ l.length < sizeLine ∧ 0 ≤ i ∧ i < 2 ^ 63 ∧ Q .non (sput L p (.lst (l.take i.toNat ++ [d] ++ l.drop i.toNat)))
  | _, _, _, _ => False
def joinD : D → List D → Store → AQ → Prop
  | .str z, [.ref p], L, Q => ∃ ys : List Str, L p = some (.lst (ys.map D.str)) ∧ (ys.map (·.length)).sum + ys.length * z.length ≤ 16777216 ∧ Q (.str (Txt.join z ys)) L
  | .str z, [.tup l], L, Q => ∃ ys : List Str, l = ys.map D.str ∧ (ys.map (·.length)).sum + ys.length * z.length ≤ 16777216 ∧ Q (.str (Txt.join z ys)) L
  | _, _, _, _ => False
def countD : D → List D → Store → AQ → Prop
  | .str a, [.str b], L, Q => Q (.int (Txt.count a b)) L
  | _, _, _, _ => False
section
variable {X : Cx} {c : AC X.K} {H0 : Hp} {o e : Expr} {es : List Expr} {a b : ATE} {as : ATA} {name : Str} {apos cpos pos : Pos} {id : String} {r : V → List V → Hp → VK → Prop} {f : D → List D → Store → AQ → Prop}
theorem ty_lst {H : Hp} {L : Store} {d : D} {v : V} (r : Rep c H d v) (g : Good c L H) (h : isLst d L) : tyV X.K "list" v H := by
  obtain ⟨p, l, rfl, e1⟩ := h
  cases rep_ref.mp r
  obtain ⟨vs, e2, _⟩ := good_lst g e1
  exact .inl ⟨rfl, vs, SqL.of e2⟩
theorem ae_ml (pa : PlainAttrs "list") (slot : Slot "list" name id) (hty : typeOf (.builtin id) = pure (.type "method_descriptor")) (hm : MtR X id r) (k : LowM c r f) (ho : AE X c H0 o a) (ha : AA X c H0 (e :: es) as)
    (hbase : attributeBase o name X.env (eval o X.env) = eval o X.env := by rfl)
    (hfew : ((backTo cpos (starEach (e :: es) X.env)).all (fun x => !x.1) && (backToKw cpos (keywordEach [] X.env)).all (fun x => x.1.isSome)
      && decide ((e :: es).length + ([] : List Keyword).length + (if ([] : List Keyword).isEmpty then 0 else 1) < 30)) = true := by rfl)
    (hline : (apos.endLine == cpos.line) = true := by rfl) (hs : starEach (e :: es) X.env = (false, eval e X.env) :: starEach es X.env := by rfl) (hplain : (backTo cpos (starEach es X.env)).any (·.1) = false := by rfl) :
    AE X c H0 (.Call (.Attribute o name apos) (e :: es) [] cpos) (aMl f a as) := by
  refine (pe_bm pa slot hty hm ho ha hbase hfew hline hs hplain).imp fun σ H Q ⟨env, L, R, rl, h, pq⟩ => ?_
  refine ⟨env, L, _, rl, h, fun d L1 x H1 ⟨hl, q⟩ s1 g1 r1 => ⟨ty_lst r1 g1 hl, env, L1, _, rl.step s1 g1, q, fun ds L2 vs H2 q2 s2 g2 r2 => ?_⟩⟩
  exact k x vs H2 Q d ds L2 R (r1.fr s2) r2 g2 q2 (pq.fr (s1.trans s2))
theorem ae_ml0 (pa : PlainAttrs "list") (slot : Slot "list" name id) (hty : typeOf (.builtin id) = pure (.type "method_descriptor")) (hm : MtR X id r) (k : LowM c r f) (ho : AE X c H0 o a)
    (hbase : attributeBase o name X.env (eval o X.env) = eval o X.env := by rfl) (hline : (apos.endLine == cpos.line) = true := by rfl) : AE X c H0 (.Call (.Attribute o name apos) [] [] cpos) (aMl f a aNil) := by
  refine (pe_bm0 pa slot hty hm ho hbase hline).imp fun σ H Q ⟨env, L, R, rl, h, pq⟩ => ?_
  exact ⟨env, L, _, rl, h, fun d L1 x H1 ⟨hl, q⟩ s1 g1 r1 => ⟨ty_lst r1 g1 hl, k x [] H1 Q d [] L1 R r1 .nil g1 q (pq.fr s1)⟩⟩
theorem ae_ms1 (slot : Slot "str" name id) (ty : typeOf (.builtin id) = pure (.type "method_descriptor")) (hm : MtR X id r) (k : LowM c r f) (ho : AE X c H0 o a) (he : AE X c H0 e b)
    (hs : starEach [e] X.env = [(false, eval e X.env)] := by rfl) (hbase : attributeBase o name X.env (eval o X.env) = eval o X.env := by rfl) (hline : (apos.endLine == pos.line) = true := by rfl) :
    AE X c H0 (.Call (.Attribute o name apos) [e] [] pos) (aMs f a (aCons b aNil)) := by
  refine (pe_m1 slot ty hm ho he hs hbase hline).imp fun σ H Q ⟨env, L, R, rl, h, pq⟩ => ?_
  refine ⟨env, L, _, rl, h, fun d L1 x H1 ⟨⟨z, hz⟩, q⟩ s1 g1 r1 => ?_⟩
  subst hz
  refine ⟨⟨z, rep_str.mp r1⟩, env, L1, _, rl.step s1 g1, q, fun d2 L2 y H2 q2 s2 g2 r2 => ?_⟩
  exact k x [y] H2 Q _ [d2] L2 R (r1.fr s2) (.one r2) g2 q2 (pq.fr (s1.trans s2))
end
section
variable {K : PySem.W.Frag} {c : AC K}
theorem lst_put {H : Hp} {L : Store} {R : AQ} {Q : VK} {p : Addr} {l l' : List D} {vs' : List V} {d : D} {v : V} (g : Good c L H) (pq : Pq c H R Q) (e : L p = some (.lst l)) (rs : RepL c H l' vs') (rd : Rep c H d v) (q : R d (sput L p (.lst l'))) : Q v (upd H p (.lst vs')) := by
  obtain ⟨vs, e1, _⟩ := good_lst g e
  have s : Fr c H (upd H p (.lst vs')) := .put e1 fun z => z
  obtain ⟨g', _⟩ := g.put (m' := .lst l') e (.lst vs') ⟨vs', upd_same, rs.fr s⟩
  exact pq d _ v _ q s g' (rd.fr s)
theorem low_append : LowM c rAppend appendD := fun x vs H Q d ds L R rx rv g h pq => by
  unfold appendD at h
  split at h
  · rename_i p d
    obtain ⟨l, e, hz, h⟩ := h
    cases rep_ref.mp rx
    obtain ⟨v, rfl, r1⟩ := repL_one rv
    obtain ⟨ws, e1, rs⟩ := good_lst g e
    exact ⟨p, ws, v, rfl, rfl, e1, by rw [rs.len]; exact hz, lst_put g pq e (rs.app (.one r1)) (rep_non.mpr rfl) h⟩
  · exact h.elim
theorem repL_dropLast {H : Hp} {l : List D} {vs : List V} (r : RepL c H l vs) : RepL c H l.dropLast vs.dropLast := by
  rw [List.dropLast_eq_take, List.dropLast_eq_take, r.len]
  exact r.take _
theorem low_pop : LowM c rPop popD := fun x vs H Q d ds L R rx rv g h pq => by
  unfold popD at h
  split at h
  · rename_i p
    obtain ⟨l, d, e, e2, h⟩ := h
    cases rep_ref.mp rx
    cases repL_nil.mp rv
    obtain ⟨ws, e1, rs⟩ := good_lst g e
    obtain ⟨v, e3, r⟩ := rs.get e2
    exact ⟨p, ws, v, rfl, rfl, e1, by rw [rs.len]; exact e3, lst_put g pq e (repL_dropLast rs) r h⟩
  · exact h.elim
theorem low_popAt : LowM c rPopAt popAtD := fun x vs H Q d ds L R rx rv g h pq => by
  unfold popAtD at h
  split at h
  · rename_i p i
    obtain ⟨l, k, d, e, h1, h2, h3, e2, h⟩ := h
    cases rep_ref.mp rx
    obtain ⟨v, rfl, r1⟩ := repL_one rv
    cases rep_int.mp r1
    obtain ⟨ws, e1, rs⟩ := good_lst g e
    obtain ⟨v, e3, r⟩ := rs.get e2
    exact ⟨p, ws, i, k, v, rfl, rfl, e1, h1, h2, by rw [rs.len]; exact h3, e3, lst_put g pq e (rs.eraseIdx k) r h⟩
  · exact h.elim
theorem low_insert : LowM c (fun x vs H Q => ∃ (l : Addr) (xs : List V) (i : Int) (y : V), x = .ref l ∧ vs = [.int i, y] ∧ H l = some (.lst xs) ∧ xs.length < sizeLine ∧ 0 ≤ i ∧ i < 2 ^ 63 ∧
    Q .non (upd H l (.lst (xs.take i.toNat ++ [y] ++ xs.drop i.toNat)))) insertD := fun x vs H Q d ds L R rx rv g h pq => by
  unfold insertD at h
  split at h
  · rename_i p i d
    obtain ⟨l, e, h1, h2, h3, h⟩ := h
    cases rep_ref.mp rx
    obtain ⟨v, w, rfl, r1, r2⟩ := repL_two rv
    cases rep_int.mp r1
    obtain ⟨ws, e1, rs⟩ := good_lst g e
    exact ⟨p, ws, i, w, rfl, rfl, e1, by rw [rs.len]; exact h1, h2, h3, lst_put g pq e (((rs.take _).app (.one r2)).app (rs.drop _)) (rep_non.mpr rfl) h⟩
  · exact h.elim
theorem low_join : LowM c (fun x xs H Q => ∃ a p, ∃ ys : List Str, x = .str a ∧ xs = [.ref p] ∧ (SqL K H p (ys.map V.str) ∨ SqT K H p (ys.map V.str)) ∧
    (ys.map (·.length)).sum + ys.length * a.length ≤ 16777216 ∧ Q (.str (Txt.join a ys)) H) joinD := fun x vs H Q d ds L R rx rv g h pq => by
  unfold joinD at h
  split at h
  · rename_i z p
    obtain ⟨ys, e, hz, h⟩ := h
    obtain ⟨v, rfl, r1⟩ := repL_one rv
    cases rep_ref.mp r1
    obtain ⟨ws, e1, rs⟩ := good_lst g e
    rw [RepL.strs.mp rs] at e1
    exact ⟨z, p, ys, rep_str.mp rx, rfl, .inl (SqL.of e1), hz, pq.here h g (rep_str.mpr rfl)⟩
  · rename_i z l
    obtain ⟨ys, e, hz, h⟩ := h
    subst e
    obtain ⟨v, rfl, r1⟩ := repL_one rv
    obtain ⟨p, ws, rfl, e1, rs⟩ := rep_tup.mp r1
    rw [RepL.strs.mp rs] at e1
    exact ⟨z, p, ys, rep_str.mp rx, rfl, .inr e1, hz, pq.here h g (rep_str.mpr rfl)⟩
  · exact h.elim
theorem low_count : LowM c (fun x xs H Q => ∃ a b, x = .str a ∧ xs = [.str b] ∧ Q (.int (Txt.count a b)) H) countD := fun x vs H Q d ds L R rx rv g h pq => by
  unfold countD at h
  split at h
  · rename_i z y
    obtain ⟨v, rfl, r1⟩ := repL_one rv
    cases rep_str.mp r1
    exact ⟨z, y, rep_str.mp rx, rfl, pq.here h g (rep_int.mpr rfl)⟩
  · exact h.elim
end
def refD : D → (Addr → Prop) → Prop
  | .ref p, Q => Q p
  | _, _ => False
def tupE : D → (List D → Prop) → Prop
  | .tup l, Q => Q l
  | _, _ => False
def strE : D → (Str → Prop) → Prop
  | .str z, Q => Q z
  | _, _ => False
theorem ref_low {K : PySem.W.Frag} {c : AC K} {H : Hp} {d : D} {v : V} {R : Addr → Prop} (r : Rep c H d v) (h : refD d R) : ∃ p, v = .ref p ∧ R p := by
  cases d with
  | ref p => exact ⟨p, rep_ref.mp r, h⟩
  | _ => exact h.elim
theorem tup_low {K : PySem.W.Frag} {c : AC K} {H : Hp} {d : D} {v : V} {R : List D → Prop} (r : Rep c H d v) (h : tupE d R) : ∃ p vs l, v = .ref p ∧ SqT K H p vs ∧ RepL c H l vs ∧ R l := by
  cases d with
  | tup l =>
    obtain ⟨p, vs, e, e1, rs⟩ := rep_tup.mp r
    exact ⟨p, vs, l, e, e1, rs, h⟩
  | _ => exact h.elim
theorem str_low {K : PySem.W.Frag} {c : AC K} {H : Hp} {d : D} {v : V} {R : Str → Prop} (r : Rep c H d v) (h : strE d R) : ∃ z, v = .str z ∧ R z := by
  cases d with
  | str z => exact ⟨z, rep_str.mp r, h⟩
  | _ => exact h.elim
def lstAt (p : Addr) (l : List D) : Store → Prop := fun L => L p = some (.lst l)
def yes : Store → Prop := fun _ => True
def aiList (a : ATE) : ATI := fun env L Q => a env L fun d L1 => refD d fun p => ∃ l, L1 p = some (.lst l) ∧ Q l (lstAt p l) L1
def aiTup (a : ATE) : ATI := fun env L Q => a env L fun d L1 => tupE d fun l => Q l yes L1
def aiStr (a : ATE) : ATI := fun env L Q => a env L fun d L1 => strE d fun z => Q (z.cps.toList.map fun k => .str ⟨#[k]⟩) yes L1
def rngD (lo : Int) (n : Nat) : List D := (List.range n).map fun i => .int (lo + (i : Nat))
def aiRng1 (as : ATA) : ATI := fun env L Q => as env L fun ds L1 => match ds with
  | [.int j] => -(2 ^ 62) ≤ j ∧ j < 2 ^ 62 ∧ Q (rngD 0 j.toNat) yes L1
  | _ => False
section
variable {K : PySem.W.Frag} {c : AC K} {H H1 H' : Hp} {L : Store}
theorem walkA_list {p : Addr} {l : List D} (g : Good c L H) (e : L p = some (.lst l)) : WalkA c (Itl K p) l (lstAt p l) H := by
  obtain ⟨vs, e1, rs⟩ := good_lst g e
  refine ⟨fun H' => Fr c H H' ∧ ∃ ws, H' p = some (.lst ws) ∧ RepL c H' l ws, ?_, fun L' H' s g' e' => ⟨s, good_lst g' e'⟩⟩
  refine ⟨fun i H' hi ⟨_, ws, e2, r2⟩ => ⟨ws, ws[i]'(by rw [r2.len]; exact hi), SqL.of e2, List.getElem?_eq_getElem (by rw [r2.len]; exact hi)⟩, fun H' ⟨_, ws, e2, r2⟩ => ⟨ws, SqL.of e2, by rw [r2.len]; exact Nat.le_refl _⟩, fun i H1 x H2 hi ⟨s, ws, e2, r2⟩ y => ?_⟩
  obtain ⟨rfl, y⟩ := y
  obtain ⟨d, e3, r⟩ := r2.getV (y ws (SqL.of e2))
  exact ⟨.refl c _, fun L g => g, d, e3, r⟩
theorem walkA_tup {p : Addr} {l : List D} {vs : List V} (e : SqT K H p vs) (rs : RepL c H l vs) : WalkA c (Itt K p) l yes H := by
  refine ⟨fun H' => Fr c H H', ?_, fun L' H' s g' e' => s⟩
  have at_ : ∀ {H'}, Fr c H H' → SqT K H' p vs := fun s => sqT_fr s e
  refine ⟨fun i H' hi s => ⟨vs, vs[i]'(by rw [rs.len]; exact hi), at_ s, List.getElem?_eq_getElem (by rw [rs.len]; exact hi)⟩, fun H' s => ⟨vs, at_ s, by rw [rs.len]; exact Nat.le_refl _⟩, fun i H1 x H2 hi s y => ?_⟩
  obtain ⟨rfl, y⟩ := y
  obtain ⟨d, e3, r⟩ := (rs.fr s).getV (y vs (at_ s))
  exact ⟨.refl c _, fun L g => g, d, e3, r⟩
theorem rngD_get {lo : Int} {n i : Nat} (h : i < n) : (rngD lo n)[i]? = some (.int (lo + (i : Nat))) := by
  unfold rngD
  rw [List.getElem?_map, List.getElem?_range h]
  rfl
theorem rngD_len {lo : Int} {n : Nat} : (rngD lo n).length = n := by
  unfold rngD
  rw [List.length_map, List.length_range]
theorem walkA_rng {lo : Int} {n : Nat} : WalkA c (Itr lo n) (rngD lo n) yes H := by
  refine ⟨fun _ => True, ?_, fun _ _ _ _ _ => trivial⟩
  rw [rngD_len]
  refine walk_range.mono (fun _ _ => trivial) fun i H1 x H2 hi _ y => ?_
  obtain ⟨rfl, rfl⟩ := y
  exact ⟨.refl c _, fun L g => g, _, rngD_get hi, rep_int.mpr rfl⟩
theorem walkA_str {z : Str} : WalkA c (Its z) (z.cps.toList.map fun k => .str ⟨#[k]⟩) yes H := by
  refine ⟨fun _ => True, ?_, fun _ _ _ _ _ => trivial⟩
  rw [List.length_map, Array.length_toList]
  refine walk_str.mono (fun _ _ => trivial) fun i H1 x H2 hi _ y => ?_
  obtain ⟨rfl, k, e, rfl⟩ := y
  exact ⟨.refl c _, fun L g => g, .str ⟨#[k]⟩, by rw [List.getElem?_map, Array.getElem?_toList, e]; rfl, rep_str.mpr rfl⟩
end
section
variable {X : Cx} {c : AC X.K} {H0 : Hp} {tg e f : Expr} {a : ATE} {as : ATA} {p pos tpos : Pos} {elts : List Expr} {kk : Nat}
theorem ai_list (h : AE X c H0 e a) : AI X c H0 tg e (aiList a) := by
  refine (pi_list h).imp fun σ H Q ⟨env, L, R, rl, h, pq⟩ => ?_
  refine ⟨env, L, _, rl, h, fun d L1 x H1 q s1 g1 r1 => ?_⟩
  obtain ⟨p, rfl, l, e, q⟩ := ref_low r1 q
  obtain ⟨vs, e1, rs⟩ := good_lst g1 e
  exact ⟨p, rfl, ⟨vs, SqL.of e1⟩, pq _ _ L1 _ H1 q s1 g1 (walkA_list g1 e)⟩
theorem ai_tup (h : AE X c H0 e a) : AI X c H0 tg e (aiTup a) := by
  refine (pi_tup h).imp fun σ H Q ⟨env, L, R, rl, h, pq⟩ => ?_
  refine ⟨env, L, _, rl, h, fun d L1 x H1 q s1 g1 r1 => ?_⟩
  obtain ⟨p, vs, l, rfl, e1, rs, q⟩ := tup_low r1 q
  exact ⟨p, rfl, ⟨vs, e1⟩, pq _ _ L1 _ H1 q s1 g1 (walkA_tup e1 rs)⟩
theorem ai_str (h : AE X c H0 e a) : AI X c H0 tg e (aiStr a) := by
  refine (pi_str h).imp fun σ H Q ⟨env, L, R, rl, h, pq⟩ => ?_
  refine ⟨env, L, _, rl, h, fun d L1 x H1 q s1 g1 r1 => ?_⟩
  obtain ⟨z, rfl, q⟩ := str_low r1 q
  exact ⟨z, rfl, pq _ _ L1 _ H1 q s1 g1 walkA_str⟩
theorem ai_rng1 (hg : Gl X "range") (hm : X.mg "range" = none) (ha : AA X c H0 [e] as) (hs : starEach [e] X.env = [(false, eval e X.env)] := by rfl) : AI X c H0 tg (.Call (.Name "range" p) [e] [] pos) (aiRng1 as) := by
  refine (pi_range1 hg hm ha hs).imp fun σ H Q ⟨env, L, R, rl, h, pq⟩ => ?_
  refine ⟨env, L, _, rl, h, fun ds L1 vs H1 q s1 g1 r1 => ?_⟩
  split at q
  · rename_i j
    obtain ⟨h1, h2, q⟩ := q
    obtain ⟨v, rfl, r2⟩ := repL_one r1
    cases rep_int.mp r2
    exact ⟨j, rfl, h1, h2, pq _ _ L1 _ H1 q s1 g1 walkA_rng⟩
  · exact q.elim
end
end AL
namespace AL
open PySem PySem.Spec PyProof.Rows L2 LamX JW
def wipeA (env : En) : List Nat → En
  | [] => env
  | v :: vs => (wipeA env vs).set v none
theorem set_twice {α : Type} (l : List α) (i : Nat) (a b : α) : (l.set i a).set i b = l.set i b := by rw [List.set_set]
theorem wipe_set (σ : L2.St) (j : Nat) (x : Option V) : ∀ vs : List Nat, (∀ y, (wipe (σ.set j x) vs).set j y = (wipe σ vs).set j y) ∧ (j ∈ vs → wipe (σ.set j x) vs = wipe σ vs)
  | [] => ⟨fun y => set_twice _ _ _ _, fun h => absurd h (by simp)⟩
  | v :: vs => by
    obtain ⟨h1, h2⟩ := wipe_set σ j x vs
    by_cases e : v = j
    · subst e
      refine ⟨fun y => ?_, fun _ => h1 none⟩
      show ((wipe (σ.set v x) vs).set v none).set v y = ((wipe σ vs).set v none).set v y
      rw [h1 none]
    · refine ⟨fun y => ?_, fun h => ?_⟩
      · show ((wipe (σ.set j x) vs).set v none).set j y = ((wipe σ vs).set v none).set j y
        rw [List.set_comm _ _ e, h1 y, List.set_comm _ _ (Ne.symm e)]
      · have hj : j ∈ vs := (List.mem_cons.mp h).resolve_left (Ne.symm e)
        show (wipe (σ.set j x) vs).set v none = (wipe σ vs).set v none
        rw [h2 hj]
theorem wipe_idem (σ : L2.St) : ∀ vs : List Nat, wipe (wipe σ vs) vs = wipe σ vs
  | [] => rfl
  | v :: vs => by
    show (wipe ((wipe σ vs).set v none) vs).set v none = (wipe σ vs).set v none
    rw [(wipe_set (wipe σ vs) v none vs).1, wipe_idem σ vs]
section
variable {K : PySem.W.Frag} {c : AC K} {H : Hp} {σ : L2.St} {env : En}
theorem EnvR.unset (h : EnvR c H σ env) (i : Nat) : EnvR c H (σ.set i none) (env.set i none) := by
  refine ⟨by rw [List.length_set, List.length_set, h.len], fun j e hj => ?_⟩
  by_cases hi : i = j
  · subst hi
    rcases Nat.lt_or_ge i env.length with z | z
    · rw [List.getElem?_set_self z] at hj
      cases hj
    · rw [List.getElem?_eq_none (by simpa using z)] at hj
      cases hj
  · rw [List.getElem?_set_ne hi] at hj
    obtain ⟨u, e1, r1⟩ := h.get j e hj
    exact ⟨u, by rw [List.getElem?_set_ne hi]; exact e1, r1⟩
theorem EnvR.wipe (h : EnvR c H σ env) : ∀ vs : List Nat, EnvR c H (L2.wipe σ vs) (wipeA env vs)
  | [] => h
  | v :: vs => (h.wipe vs).unset v
end
def TgOk {K : PySem.W.Frag} (c : AC K) (g : TG) (ag : ATG) (vs : List Nat) : Prop := ∀ d x env L R σ H (P : L2.St → Hp → Prop), Rep c H d x → EnvR c H σ env → ag d env L R →
  (∀ env1 σ1, R env1 L → EnvR c H σ1 env1 → wipe σ1 vs = wipe σ vs → P σ1 H) → g x σ H P
def gNs : List Nat → TGs
  | [] => gNil
  | j :: js => gCons (gName j) (gNs js)
def agNs : List Nat → ATGs
  | [] => agNil
  | j :: js => agCons (agName j) (agNs js)
section
variable {K : PySem.W.Frag} {c : AC K}
theorem tgOk_name {j : Nat} {vs : List Nat} (hj : j ∈ vs) : TgOk c (gName j) (agName j) vs := fun d x env L R σ H P r er h k => k _ _ h (er.set j r) ((wipe_set σ j _ vs).2 hj)
theorem gNs_low {vs : List Nat} : ∀ {js : List Nat} {l : List D} {xs : List V} {env : En} {L : Store} {R : En → Store → Prop} {σ : L2.St} {H : Hp} {P : L2.St → Hp → Prop}, (∀ j ∈ js, j ∈ vs) → RepL c H l xs → EnvR c H σ env → agNs js l env L R →
    (∀ env1 σ1, R env1 L → EnvR c H σ1 env1 → wipe σ1 vs = wipe σ vs → P σ1 H) → gNs js xs σ H P
  | [], l, xs, env, L, R, σ, H, P, _, r, er, h, k => by
    obtain ⟨rfl, h⟩ := h
    exact ⟨repL_nil.mp r, k env σ h er rfl⟩
  | j :: js, l, xs, env, L, R, σ, H, P, hj, r, er, h, k => by
    cases l with
    | nil => exact h.elim
    | cons d l =>
      obtain ⟨v, ws, rfl, r1, r2⟩ := repL_cons.mp r
      refine ⟨v, ws, rfl, ?_⟩
      refine gNs_low (js := js) (fun j' h' => hj j' (List.mem_cons_of_mem _ h')) r2 (er.set j r1) h fun env1 σ1 h1 h2 h3 => k env1 σ1 h1 h2 ?_
      rw [h3]
      exact (wipe_set σ j _ vs).2 (hj j List.mem_cons_self)
theorem agNs_len : ∀ {js : List Nat} {l : List D} {env : En} {L : Store} {R : En → Store → Prop}, agNs js l env L R → l.length = js.length
  | [], l, env, L, R, h => by rw [h.1]; rfl
  | j :: js, l, env, L, R, h => by
    cases l with
    | nil => exact h.elim
    | cons d l => rw [List.length_cons, List.length_cons, agNs_len (js := js) h]
theorem tgOk_tup {js : List Nat} {n : Nat} {vs : List Nat} (hn : n = js.length) (hj : ∀ j ∈ js, j ∈ vs) : TgOk c (gTup K n (gNs js)) (agTup (agNs js)) vs := fun d x env L R σ H P r er h k => by
  cases d with
  | tup l =>
    obtain ⟨p, ws, rfl, e1, rs⟩ := rep_tup.mp r
    exact ⟨p, ws, rfl, e1, by rw [rs.len, hn]; exact agNs_len h, gNs_low hj rs er h k⟩
  | _ => exact h.elim
end
def compA (g : ATG) (t : ATT) (a : ATE) (G : Store → Prop) (p : Addr) (env : En) (Q : AQ) : List D → List D → Store → Prop
  | [], acc, L => G L ∧ L p = some (.lst acc) ∧ Q (.ref p) L
  | d :: ds, acc, L => G L ∧ L p = some (.lst acc) ∧ g d env L fun env1 L1 => L1 = L ∧ t env1 L1 fun b L2 => if b = true then a env1 L2 fun x L3 => acc.length < sizeLine ∧ L3 p = some (.lst acc) ∧ compA g t a G p env Q ds (acc ++ [x]) (sput L3 p (.lst (acc ++ [x]))) else compA g t a G p env Q ds acc L2
def aYes : ATT := fun _ L Q => Q true L
def aLc (ai : ATI) (g : ATG) (t : ATT) (a : ATE) (vs : List Nat) : ATE := fun env L Q => ai env L fun items G L1 => ∀ p, L1 p = none → compA g t a G p (wipeA env vs) Q items [] (sput L1 p (.lst []))
section
variable {X : Cx} {c : AC X.K} {H0 : Hp}
theorem low_lc {ai : ATI} {g : TG} {ag : ATG} {t : ATT} {tt : TT} {a : ATE} {vs : List Nat} (tg : TgOk c g ag vs) (ht : ∀ σ H Q, lowT c H0 t σ H Q → tt σ H Q) {σ : L2.St} {H : Hp} {Q : VK} (q : lowE c H0 (aLc ai ag t a vs) σ H Q) :
    tLc (lowI c H0 ai) g tt (lowE c H0 a) vs σ H Q := by
  obtain ⟨env, L, R, rl, h, pq⟩ := q
  refine ⟨env, L, _, rl, h, fun items G L1 J H1 q s1 g1 wa D hD => ?_⟩
  have q := q D (g1.fresh hD)
  obtain ⟨GH, wk, hG⟩ := wa.ex
  have f0 : Fr c H1 (upd H1 D (.lst [])) := .new hD
  have hg0 : Good c (sput L1 D (.lst [])) (upd H1 D (.lst [])) := g1.alloc hD _ ⟨[], upd_same, RepL.nil⟩
  have hGl : ∀ {ds acc : List AL.D} {L' : Store}, compA ag t a G D (wipeA env vs) R ds acc L' → G L' := fun {ds acc L'} z => by
    cases ds with
    | nil => exact z.1
    | cons d ds => exact z.1
  refine lc_it wk (fun i H' => Fr c H1 H' ∧ ∃ acc L', Good c L' H' ∧ compA ag t a G D (wipeA env vs) R (items.drop i) acc L') ⟨f0, [], _, hg0, q⟩ (fun i H' _ ⟨f, acc, L', g', z⟩ => hG L' H' f g' (hGl z)) ?_ ?_
  · rintro i x H2 H3 hi ⟨f, acc, L', g', z⟩ ⟨s2, k2, d, e1, r⟩
    have e2 : items.drop i = d :: items.drop (i + 1) := by
      have hh := List.drop_eq_getElem_cons hi
      rw [List.getElem?_eq_getElem hi] at e1
      rw [hh, Option.some.inj e1]
    rw [e2] at z
    obtain ⟨_, hp, z⟩ := z
    have er : EnvR c H3 (wipe σ vs) (wipeA env vs) := ((rl.env.fr s1).fr (f.trans s2)).wipe vs
    refine tg d x _ L' _ _ H3 _ r er z fun env1 σ1 ⟨_, h1⟩ h2 h3 => ⟨by rw [h3, wipe_idem], ?_⟩
    have fr3 : Fr c H0 H3 := (rl.fr.trans s1).trans (f.trans s2)
    refine ht _ _ _ ⟨env1, L', _, ⟨h2, k2 _ g', fr3⟩, h1, fun b L2 H4 hb s4 g4 => ?_⟩
    cases b with
    | true =>
      refine ⟨env1, L2, _, ⟨h2.fr s4, g4, fr3.trans s4⟩, hb, fun y L3 v H5 ⟨hz, hp3, hc⟩ s5 g5 r5 => ?_⟩
      obtain ⟨ws, e5, rs⟩ := good_lst g5 hp3
      obtain ⟨g6, f6⟩ := g5.put (m' := .lst (acc ++ [y])) hp3 (.lst (ws ++ [v])) ⟨ws ++ [v], upd_same, (rs.app (.one r5)).fr (.put e5 fun z => z)⟩
      exact ⟨ws, e5, by rw [rs.len]; exact hz, (((f.trans s2).trans s4).trans s5).trans f6, _, _, g6, hc⟩
    | false => exact ⟨(f.trans s2).trans s4, acc, L2, g4, hb⟩
  · rintro H2 ⟨f, acc, L', g', z⟩
    rw [List.drop_length] at z
    exact pq _ L' _ H2 z.2.2 (s1.trans f) g' (rep_ref.mpr rfl)
theorem ae_lc {elt tg iter : Expr} {scope : Scope} {own : List (Str × Nat)} {pos : Pos} {ai : ATI} {g : TG} {ag : ATG} {a : ATE} (hc : X.calm = true) (hN : X.N.Nodup) (hi : AI X c H0 tg iter ai) (ok : BlkOk X.N X.env.scope scope own) (hk : TgOk c g ag (own.map (·.2)))
    (hg : ∀ (s : Shared) (H : Hp) (C : Addr) (cl : List (Str × Addr)) (fp : List Addr), PG (X.blk s H scope (compEnvC scope cl C X.env) fp) tg g)
    (he : ∀ (s : Shared) (H : Hp) (C : Addr) (cl : List (Str × Addr)) (fp : List Addr), AE (X.blk s H scope (compEnvC scope cl C X.env) fp) c H0 elt a) (hs : ∀ x, foldedSetIterable iter X.env x = pure x := by intro _; rfl) :
    AE X c H0 (.ListComp elt [⟨tg, iter, [], 0⟩] scope pos) (aLc ai ag aYes a (own.map (·.2))) :=
  (pe_lc (te := lowE (K := X.K) c H0 a) hc hN hi ok hg (fun _ _ _ _ _ => pts_nil) he hs).imp fun σ H Q q => low_lc hk (fun σ H Q ⟨env, L, R, rl, h, k⟩ => k true L H h (.refl c H) rl.good) q
theorem ae_lcIf {elt tg iter cond : Expr} {scope : Scope} {own : List (Str × Nat)} {pos : Pos} {ai : ATI} {g : TG} {ag : ATG} {a : ATE} {t : ATT} (hc : X.calm = true) (hN : X.N.Nodup) (hi : AI X c H0 tg iter ai) (ok : BlkOk X.N X.env.scope scope own) (hk : TgOk c g ag (own.map (·.2)))
    (hg : ∀ (s : Shared) (H : Hp) (C : Addr) (cl : List (Str × Addr)) (fp : List Addr), PG (X.blk s H scope (compEnvC scope cl C X.env) fp) tg g)
    (ht : ∀ (s : Shared) (H : Hp) (C : Addr) (cl : List (Str × Addr)) (fp : List Addr), AT (X.blk s H scope (compEnvC scope cl C X.env) fp) c H0 cond t)
    (he : ∀ (s : Shared) (H : Hp) (C : Addr) (cl : List (Str × Addr)) (fp : List Addr), AE (X.blk s H scope (compEnvC scope cl C X.env) fp) c H0 elt a) (hs : ∀ x, foldedSetIterable iter X.env x = pure x := by intro _; rfl) :
    AE X c H0 (.ListComp elt [⟨tg, iter, [cond], 0⟩] scope pos) (aLc ai ag t a (own.map (·.2))) :=
  (pe_lc (tt := lowT (K := X.K) c H0 t) (te := lowE (K := X.K) c H0 a) hc hN hi ok hg (fun s H C cl fp => pts_one (ht s H C cl fp)) he hs).imp fun σ H Q q => low_lc hk (fun _ _ _ z => z) q
theorem low_asgLc {te : TE} {a : ATE} {i : Nat} (k : ∀ σ H Q, lowE c H0 a σ H Q → te σ H Q) {D : Ends} {σ : L2.St} {H : Hp} (q : lowS c H0 (aAsg a (agName i)) D σ H) : tAsg te (gName i) D σ H := by
  obtain ⟨env, L, R, rl, h, er⟩ := q
  exact k _ _ _ ⟨env, L, _, rl, h, fun d L1 v H1 q s g1 r => er.nx _ L1 _ H1 q s ⟨(rl.env.fr s).set i r, g1, rl.fr.trans s⟩⟩
theorem as_setLc {i : Nat} {y : Str} {py : Pos} {elt tg iter : Expr} {scope : Scope} {own : List (Str × Nat)} {pos spos : Pos} {ai : ATI} {g : TG} {ag : ATG} {a : ATE} (hc : X.calm = true) (hN : X.N.Nodup) (hy : X.N[i]? = some y) (hyl : X.env.scope.names.lookup y = some .local)
    (hsw : swapsWith (.ListComp elt [⟨tg, iter, [], 0⟩] scope pos) (some (.Name y py)) spos.line X.env = pure true) (hi : AI X c H0 tg iter ai) (ok : BlkOk X.N X.env.scope scope own) (hk : TgOk c g ag (own.map (·.2)))
    (hg : ∀ (s : Shared) (H : Hp) (C : Addr) (cl : List (Str × Addr)) (fp : List Addr), PG (X.blk s H scope (compEnvC scope cl C X.env) fp) tg g)
    (he : ∀ (s : Shared) (H : Hp) (C : Addr) (cl : List (Str × Addr)) (fp : List Addr), AE (X.blk s H scope (compEnvC scope cl C X.env) fp) c H0 elt a) (hs : ∀ x, foldedSetIterable iter X.env x = pure x := by intro _; rfl) :
    AS X c H0 (.Assign [.Name y py] (.ListComp elt [⟨tg, iter, [], 0⟩] scope pos) spos) (aAsg (aLc ai ag aYes a (own.map (·.2))) (agName i)) :=
  (ps_setLc (te := lowE (K := X.K) c H0 a) hc hN hy hyl hsw hi ok hg (fun _ _ _ _ _ => pts_nil) he hs).imp fun D σ H q => low_asgLc (fun σ H Q q => low_lc hk (fun σ H Q ⟨env, L, R, rl, h, k⟩ => k true L H h (.refl c H) rl.good) q) q
end
def startA (N : List Str) (ds : List D) : En := ds.map some ++ List.replicate (N.length - ds.length) none
def fnEnds (R : AQ) : AEnds := { nx := fun _ L => ∃ L0, SubS L0 L ∧ R .non L0, rt := fun d L => ∃ L0, SubS L0 L ∧ R d L0 }
theorem ret_of {R : AQ} {d : D} {L : Store} (h : R d L) : ∃ L0, SubS L0 L ∧ R d L0 := ⟨L, .refl L, h⟩
theorem ret_sub {R : AQ} {d : D} {L L0 : Store} (h : R d L0) (s : SubS L0 L) : ∃ L0, SubS L0 L ∧ R d L0 := ⟨L0, s, h⟩
section
variable {K : PySem.W.Frag} {c : AC K}
theorem start_low {N : List Str} {ds : List D} {vs : List V} {H : Hp} (r : RepL c H ds vs) : EnvR c H (L2.start N vs) (startA N ds) := by
  unfold L2.start startA
  refine ⟨by simp [r.len], fun i d e => ?_⟩
  by_cases hi : i < ds.length
  · rw [List.getElem?_append_left (by simpa using hi), List.getElem?_map] at e
    rw [List.getElem?_append_left (by simpa [r.len] using hi), List.getElem?_map]
    cases e1 : ds[i]? with
    | none => rw [e1] at e; cases e
    | some d' =>
      rw [e1] at e
      cases e
      obtain ⟨v, e2, r2⟩ := r.get e1
      exact ⟨v, by rw [e2]; rfl, r2⟩
  · rw [List.getElem?_append_right (by simpa using hi), List.getElem?_replicate] at e
    split at e <;> cases e
theorem body_low {N : List Str} {H : Hp} {a : ATS} {ds : List D} {vs : List V} {L : Store} {R : AQ} {Q : VK} (r : RepL c H ds vs) (g : Good c L H) (pq : Pq c H R Q) (vc : a (fnEnds R) (startA N ds) L) : lowS c H a { nx := fun _ H' => Q .non H', rt := Q } (L2.start N vs) H :=
  ⟨startA N ds, L, fnEnds R, ⟨start_low r, g, .refl c H⟩, vc, ⟨fun env' L' σ' H' ⟨L0, sb, h⟩ s rl => pq .non L0 .non H' h s (rl.good.sub sb) (rep_non.mpr rfl), fun d L' v H' ⟨L0, sb, h⟩ s g' r' => pq d L0 v H' h s (g'.sub sb) r', fun _ _ _ _ h => h.elim, fun _ _ _ _ h => h.elim⟩⟩
end
section
variable {P : Program} {w : World} {K : PySem.W.Frag} {mg : Str → Option Value} {base : Heap} {c : AC K} {x m qual : Str} {st : Stmt} {N ps : List Str} {k : Nat} {asp : ASp} {C : Addr}
theorem spA_len {n : Nat} (hl : ∀ ds L R RX, asp ds L R RX → ds.length = n) : ∀ vs H Q E, spA c asp vs H Q E → vs.length = n := fun vs H Q E ⟨ds, L, R, RX, r, _, h, _⟩ => by rw [r.len]; exact hl ds L R RX h
theorem _root_.JW.DefAt.okA {a : ATS} (D : DefAt K mg x qual st [] ps) (S : FnScope N ps (defScope st)) (hl : ∀ ds L R RX, asp ds L R RX → ds.length = ps.length)
    (body : ∀ (f : Addr) (cdv : Value) (A : Around) (outer : List Env) (s : Shared) (H : Hp) (E : XK), Room k (A.deeper (envOfC qual (defScope st) s.heap.objs.size f cdv)) → ASs (cxOf CX0 P w K mg base N qual (defScope st) f cdv A outer s H E).nox c H (defBody st) a)
    (vc : ∀ ds L R RX, asp ds L R RX → a (fnEnds R) (startA N ds) L) : CallD P w K mg base CX0 (k + 1) x ps [] (spA c asp) :=
  D.ok S (spA_len hl) fun f cdv A outer s H vs Q E hr ⟨ds, L, R, RX, r, g, h, pq, px⟩ => ⟨_, body f cdv A outer s H E hr, body_low r g pq (vc ds L R RX h)⟩
theorem _root_.JW.DefAt.okAX {a : AX → ATS} (D : DefAt K mg x qual st [] ps) (S : FnScope N ps (defScope st)) (hl : ∀ ds L R RX, asp ds L R RX → ds.length = ps.length)
    (body : ∀ (f : Addr) (cdv : Value) (A : Around) (outer : List Env) (s : Shared) (H : Hp) (E : XK) (RX : AX), Px c H RX E → Room k (A.deeper (envOfC qual (defScope st) s.heap.objs.size f cdv)) → ASs (cxOf (L2.CX P w) P w K mg base N qual (defScope st) f cdv A outer s H E) c H (defBody st) (a RX))
    (vc : ∀ ds L R RX, asp ds L R RX → a RX (fnEnds R) (startA N ds) L) : CallD P w K mg base (L2.CX P w) (k + 1) x ps [] (spA c asp) :=
  D.okX S (spA_len hl) fun f cdv A outer s H vs Q E hr ⟨ds, L, R, RX, r, g, h, pq, px⟩ => ⟨_, body f cdv A outer s H E RX px hr, body_low r g pq (vc ds L R RX h)⟩
theorem _root_.JW.MethAt.okA {a : ATS} (D : MethAt K C m qual st ps) (S : FnScope N ps (defScope st)) (hl : ∀ ds L R RX, asp ds L R RX → ds.length = ps.length)
    (body : ∀ (f : Addr) (cdv : Value) (A : Around) (outer : List Env) (s : Shared) (H : Hp) (E : XK), Room k (A.deeper (envOfC qual (defScope st) s.heap.objs.size f cdv)) → ASs (cxOf CX0 P w K mg base N qual (defScope st) f cdv A outer s H E).nox c H (defBody st) a)
    (vc : ∀ ds L R RX, asp ds L R RX → a (fnEnds R) (startA N ds) L) : MethD P w K mg base CX0 (k + 1) C m ps [] (spA c asp) :=
  D.ok S (spA_len hl) fun f cdv A outer s H vs Q E hr ⟨ds, L, R, RX, r, g, h, pq, px⟩ => ⟨_, body f cdv A outer s H E hr, body_low r g pq (vc ds L R RX h)⟩
end
end AL
namespace AL
open PySem PySem.Spec PyProof.Rows L2 LamX JW
section
open PySem.SeqAt AutoSeq1 MeetsSeq MeetsSeq2 MeetsSeq3
variable {prog : Program} {w : World} {A : Around} {R : Result → Shared → Prop}
def TwoL (prog : Program) (w : World) (A : Around) (E : Value → Shared → Prop) (p q : Addr) (m : Nat) (f : Nat → Bool) (J : Shared → Prop) : Prop :=
  ∀ s0, J s0 → ∃ (xs ys : Array Value) (c1 c2 : Nat), s0.heap.get? p = some { cls := .type "list", data := .seq xs c1 } ∧ s0.heap.get? q = some { cls := .type "list", data := .seq ys c2 } ∧ xs.size = m ∧ ys.size = m ∧
    ∀ (i : Nat) (h1 : i < xs.size) (h2 : i < ys.size), wpAny (model prog w) A.in1 (eqBool xs[i] ys[i]) (fun r s' => r = f i ∧ J s') E s0
def opC (neg : Bool) : Int := if neg then 3 else 2
theorem loop_any (p q : Addr) (m : Nat) (f : Nat → Bool) (neg : Bool) (J : Shared → Prop) (tw : TwoL prog w A (fun e s' => R (.error e) s') p q m f J)
    (fin : ∀ s0 b, J s0 → b = (neg ^^ (List.range m).all f) → R (.ok (.ret (.bool b))) s0) (j : Nat) :
    ∀ i : Nat, m - i = j → i ≤ m → ((List.range m).all f = ((List.range m).drop i).all f) → ∀ s0, J s0 →
      wpAny (model prog w) A.in1 (Builtin.«list.__eq__.loop» ⟨[.ref p, .ref q, rawInt i, rawInt (opC neg)], []⟩) (GQ.FinOf prog w A R) (fun e s' => R (.error e) s') s0 := by
  induction j with
  | zero =>
    intro i hj hi ha s0 hJ
    obtain ⟨xs, ys, c1, c2, k1, k2, z1, z2, _⟩ := tw _ hJ
    have im : i = m := by omega
    subst im
    have hR := fin s0 (!neg) hJ (by rw [ha, List.drop_of_length_le (by simp)]; cases neg <;> rfl)
    obtain ⟨hp, g, d, tk, os⟩ := s0
    cases neg <;>
    · show wpAny _ _ (Builtin.«list.__eq__.loop» ⟨[.ref p, .ref q, rawInt i, rawInt _], []⟩) _ _ _
      simp only [opC] at *
      wp_walk using wpAny_loadPart' k1, wpAny_loadPart' k2
      have e1 : xs[((i : Nat) : Int).toNat]? = none := by simp [z1]
      have e2 : ys[((i : Nat) : Int).toNat]? = none := by simp [z2]
      rw [e1, e2]
      wp_walk using wpAny_loadPart' k1, wpAny_loadPart' k2
      first
        | show R (.ok (.ret (.bool (xs.size == ys.size)))) _
        | show R (.ok (.ret (.bool (xs.size != ys.size)))) _
      rw [z1, z2]
      simpa using hR
  | succ j ih =>
    intro i hj hi ha s0 hJ
    obtain ⟨xs, ys, c1, c2, k1, k2, z1, z2, turn⟩ := tw _ hJ
    have l1 : i < xs.size := by omega
    have l2 : i < ys.size := by omega
    have ht := turn i l1 l2
    have e1 : xs[((i : Nat) : Int).toNat]? = some xs[i] := by simp [l1]
    have e2 : ys[((i : Nat) : Int).toNat]? = some ys[i] := by simp [l2]
    have ec : ((i : Int) + 1) = ((i + 1 : Nat) : Int) := by omega
    have ed : (List.range m).drop i = i :: (List.range m).drop (i + 1) := by
      have l3 : i < (List.range m).length := by simp; omega
      have := List.drop_eq_getElem_cons l3
      simpa using this
    obtain ⟨hp, g, d, tk, os⟩ := s0
    cases neg <;>
    · simp only [opC] at *
      wp_walk using wpAny_loadPart' k1, wpAny_loadPart' k2
      rw [e1, e2]
      refine wpAny_bind (wpAny_mono ht (fun r s1 h1 => ?_) fun _ _ z => z)
      obtain ⟨hr, h1⟩ := h1
      subst hr
      cases hf : f i with
      | true =>
        have hrec := ih (i + 1) (by omega) (by omega) (by rw [ha, ed, List.all_cons, hf, Bool.true_and]) s1 h1
        obtain ⟨hp2, g2, d2, tk2, os2⟩ := s1
        wp_walk
        rw [ec]
        exact ⟨plainId_quiet plain_eq_loop _, codeAny_builtin entry_eq_loop (by
          rw [Around.under_plainId plain_eq_loop _]
          exact hrec)⟩
      | false =>
        obtain ⟨us, vs, d1, d2', k3, k4, z3, z4, _⟩ := tw _ h1
        have hR := fin s1 _ h1 rfl
        rw [ha, ed, List.all_cons, hf, Bool.false_and] at hR
        obtain ⟨hp2, g2, d2, tk2, os2⟩ := s1
        have l3 : i < us.size := by omega
        have l4 : i < vs.size := by omega
        have e3 : us[((i : Nat) : Int).toNat]? = some us[i] := by simp [l3]
        have e4 : vs[((i : Nat) : Int).toNat]? = some vs[i] := by simp [l4]
        wp_walk using wpAny_loadPart' k3, wpAny_loadPart' k4
        rw [e3, e4]
        wp_walk
        simpa using hR
theorem list_any (p q : Addr) (m : Nat) (f : Nat → Bool) (neg : Bool) (J : Shared → Prop) (tw : TwoL prog w A (fun e s' => R (.error e) s') p q m f J)
    (fin : ∀ s0 b, J s0 → b = (neg ^^ (List.range m).all f) → R (.ok (.ret (.bool b))) s0) {s0 : Shared} (hJ : J s0) :
    wpAny (model prog w) A.in1 ((if neg then Builtin.«list.__ne__» else Builtin.«list.__eq__») ⟨[.ref p, .ref q], []⟩) (GQ.FinOf prog w A R) (fun e s' => R (.error e) s') s0 := by
  obtain ⟨xs, ys, c1, c2, k1, k2, z1, z2, _⟩ := tw _ hJ
  have hrec := loop_any (A := A) (R := R) p q m f neg J tw fin _ 0 rfl (Nat.zero_le _) (by rw [List.drop_zero]) s0 hJ
  obtain ⟨hp, g, d, tk, os⟩ := s0
  have f3 := AutoSeq1.sub_list_list
  have hne : ¬ (xs.size != ys.size) = true := by simp [z1, z2]
  cases neg with
  | false =>
    rw [if_neg Bool.false_ne_true]
    wp_walk using wpAny_loadPart' k1, wpAny_loadPart' k2
    exact ⟨plainId_quiet plain_eq_loop _, codeAny_builtin entry_eq_loop (by
      rw [Around.under_plainId plain_eq_loop _]
      exact hrec)⟩
  | true =>
    rw [if_pos rfl]
    wp_walk using wpAny_loadPart' k1, wpAny_loadPart' k2
    exact ⟨plainId_quiet plain_eq_loop _, codeAny_builtin entry_eq_loop (by
      rw [Around.under_plainId plain_eq_loop _]
      exact hrec)⟩
theorem tup_any (p q : Addr) (xs ys : Array Value) (c1 c2 : Nat) (o1 o2 : Option Addr) (b1 b2 : Array (Option Value)) (f : Nat → Bool) (neg : Bool) (J : Shared → Prop)
    (turn : ∀ (i : Nat) (h1 : i < xs.size) (h2 : i < ys.size) s0, J s0 → wpAny (model prog w) A.in1 (eqBool xs[i] ys[i]) (fun r s' => r = f i ∧ J s') (fun e s' => R (.error e) s') s0)
    (fin : ∀ s0 b, J s0 → b = (neg ^^ ((List.range (min xs.size ys.size)).all f && xs.size == ys.size)) → R (.ok (.ret (.bool b))) s0) {s0 : Shared}
    (k1 : s0.heap.get? p = some { cls := .type "tuple", dict := o1, data := .seq xs c1, slots := b1 }) (k2 : s0.heap.get? q = some { cls := .type "tuple", dict := o2, data := .seq ys c2, slots := b2 }) (hJ : J s0) :
    wpAny (model prog w) A.in1 ((if neg then Builtin.«tuple.__ne__» else Builtin.«tuple.__eq__») ⟨[.ref p, .ref q], []⟩) (GQ.FinOf prog w A R) (fun e s' => R (.error e) s') s0 := by
  have f2 := AutoSeq1.sub_tuple_tuple
  have hZ : (xs.toList.zip ys.toList).length = min xs.size ys.size := by simp
  have hJ0 := hJ
  obtain ⟨hp, g, d, tk, os⟩ := s0
  cases neg
  case' false => rw [if_neg Bool.false_ne_true]
  case' true => rw [if_pos rfl]
  all_goals
    wp_walk using wpAny_loadPart' k1, wpAny_loadPart' k2, wpAny_forIn_list _ (fun rest b s' => b.1 = none ∧ J s' ∧ ∃ i, rest = (xs.toList.zip ys.toList).drop i ∧ i ≤ min xs.size ys.size ∧
      (List.range (min xs.size ys.size)).all f = ((List.range (min xs.size ys.size)).drop i).all f) _
    case turn =>
      rintro ⟨y, x⟩ rest b s' ⟨hb, hJ', i, hz, hi, ha⟩
      have lt : i < (xs.toList.zip ys.toList).length := by
        rcases Nat.lt_or_ge i (xs.toList.zip ys.toList).length with z | z
        · exact z
        · rw [List.drop_of_length_le z] at hz
          cases hz
      have h0 : i < min xs.size ys.size := hZ ▸ lt
      have h1 : i < xs.size := by omega
      have h2 : i < ys.size := by omega
      have hz' := hz.trans (List.drop_eq_getElem_cons lt)
      injection hz' with e1 e2
      have ey : y = xs[i] := by simpa using congrArg Prod.fst e1
      have ex : x = ys[i] := by simpa using congrArg Prod.snd e1
      subst ey ex
      have ed : (List.range (min xs.size ys.size)).drop i = i :: (List.range (min xs.size ys.size)).drop (i + 1) := by
        have l3 : i < (List.range (min xs.size ys.size)).length := by simpa using h0
        simpa using List.drop_eq_getElem_cons l3
      rw [ed, List.all_cons] at ha
      refine wpAny_bind (wpAny_mono (turn i h1 h2 s' hJ') (fun r s1 q1 => ?_) fun _ _ z => z)
      obtain ⟨hr, q1⟩ := q1
      subst hr
      cases hf : f i with
      | true =>
        rw [hf, Bool.true_and] at ha
        wp_walk
        exact ⟨rfl, q1, i + 1, e2, h0, ha⟩
      | false =>
        rw [hf, Bool.false_and] at ha
        wp_walk
        exact fin _ _ q1 (by rw [ha]; rfl)
    case fin =>
      rintro ⟨r1, r2⟩ s' ⟨hb, hJ', i, hz, hi, ha⟩
      simp only at hb
      subst hb
      have hge : min xs.size ys.size ≤ i := by
        rcases Nat.lt_or_ge i (xs.toList.zip ys.toList).length with z | z
        · have hz' := hz.trans (List.drop_eq_getElem_cons z)
          cases hz'
        · exact hZ ▸ z
      rw [List.drop_of_length_le (by simpa using hge)] at ha
      have hR := fin s' _ hJ' rfl
      rw [ha] at hR
      wp_walk
      simpa [Builtin.Tuple.tupleCompareSizes, bne] using hR
    case h =>
      exact ⟨rfl, hJ0, 0, rfl, Nat.zero_le _, rfl⟩
end
section
variable {prog : Program} {w : World} {A : Around} {E : Value → Shared → Prop} {s0 : Shared} {Q : Value → Shared → Prop}
theorem rc_list_any {p q : Addr} (m : Nat) (f : Nat → Bool) (neg : Bool) (J : Shared → Prop) (hu : A.units < cLine) (tw : TwoL prog w A E p q m f J) (fin : ∀ s1 b, J s1 → b = (neg ^^ (List.range m).all f) → Q (.bool b) s1) (hJ : J s0) :
    wpAny (model prog w) A (richCompare (if neg then .NotEq else .Eq) (.ref p) (.ref q)) Q E s0 := by
  obtain ⟨xs, ys, c1, c2, k1, k2, _, _, _⟩ := tw _ hJ
  have go := list_any (R := wants (fun v s' => v ≠ .notImplemented ∧ Q v s') E) p q m f neg J tw (fun s1 b h1 h2 => ⟨(fun z => nomatch z), fin s1 b h1 h2⟩) hJ
  cases neg with
  | false => exact wpAny_richCompare_same_room (op := .Eq) ⟨_, k1, rfl⟩ ⟨_, k2, rfl⟩ F.slot_list_eq (GQ.call_here F.slot_list_eq ⟨_, k1, rfl⟩ F.entry_list_eq (F.args_list_eq_2 _ _) go) hu
  | true => exact wpAny_richCompare_same_room (op := .NotEq) ⟨_, k1, rfl⟩ ⟨_, k2, rfl⟩ F.slot_list_ne (GQ.call_here F.slot_list_ne ⟨_, k1, rfl⟩ F.entry_list_ne (F.args_list_ne_2 _ _) go) hu
theorem rc_tup_any {p q : Addr} {xs ys : Array Value} (f : Nat → Bool) (neg : Bool) (J : Shared → Prop) (hu : A.units < cLine) (h1 : s0.heap.IsTuple p xs) (h2 : s0.heap.IsTuple q ys)
    (turn : ∀ (i : Nat) (h1 : i < xs.size) (h2 : i < ys.size) s1, J s1 → wpAny (model prog w) A.in1 (eqBool xs[i] ys[i]) (fun r s' => r = f i ∧ J s') E s1)
    (fin : ∀ s1 b, J s1 → b = (neg ^^ ((List.range (min xs.size ys.size)).all f && xs.size == ys.size)) → Q (.bool b) s1) (hJ : J s0) :
    wpAny (model prog w) A (richCompare (if neg then .NotEq else .Eq) (.ref p) (.ref q)) Q E s0 := by
  obtain ⟨⟨t1, o1, a1, b1⟩, k1, e1, n1, e2⟩ := id h1
  obtain ⟨⟨t2, o2, a2, b2⟩, k2, e3, n2, e4⟩ := id h2
  simp only at e1 e2 e3 e4
  subst e1 e2 e3 e4
  have go := tup_any (R := wants (fun v s' => v ≠ .notImplemented ∧ Q v s') E) p q xs ys n1 n2 o1 o2 b1 b2 f neg J turn (fun s1 b h1 h2 => ⟨(fun z => nomatch z), fin s1 b h1 h2⟩) k1 k2 hJ
  cases neg with
  | false => exact wpAny_richCompare_same_room (op := .Eq) ⟨_, k1, rfl⟩ ⟨_, k2, rfl⟩ F.slot_tuple_eq (GQ.call_here F.slot_tuple_eq ⟨_, k1, rfl⟩ F.entry_tuple_eq (F.args_tuple_eq_2 _ _) go) hu
  | true => exact wpAny_richCompare_same_room (op := .NotEq) ⟨_, k1, rfl⟩ ⟨_, k2, rfl⟩ F.slot_tuple_ne (GQ.call_here F.slot_tuple_ne ⟨_, k1, rfl⟩ F.entry_tuple_ne (F.args_tuple_ne_2 _ _) go) hu
end
end AL
namespace AL
open PySem PySem.Spec PyProof.Rows L2 LamX JW
mutual
def eqDD : D → D → Option Bool
  | .tup l, .tup m => (eqDL l m).map fun b => b && l.length == m.length
  | .tree t, .tree u => some (decide (t = u))
  | d, e => if flatB d && flatB e then some (eqV (vD d) (vD e)) else none
/-- item by item, as far as both go -/
def eqDL : List D → List D → Option Bool
  | d :: ds, e :: es => match eqDD d e, eqDL ds es with
    | some a, some b => some (a && b)
    | _, _ => none
  | _, _ => some true
end
mutual
def depD : D → Nat
  | .tup l => depDL l + 1
  | _ => 0
def depDL : List D → Nat
  | [] => 0
  | d :: ds => max (depD d) (depDL ds)
end
theorem eqDL_get : ∀ {l m : List D} {b : Bool}, eqDL l m = some b → ∃ f : Nat → Bool, (∀ (i : Nat) d e, l[i]? = some d → m[i]? = some e → eqDD d e = some (f i)) ∧ b = (List.range (min l.length m.length)).all f
  | [], m, b, h => by
    simp only [eqDL, Option.some.injEq] at h
    exact ⟨fun _ => true, fun i d e h1 => by simp at h1, by simp [← h]⟩
  | d :: ds, [], b, h => by
    simp only [eqDL, Option.some.injEq] at h
    exact ⟨fun _ => true, fun i d e _ h2 => by simp at h2, by simp [← h]⟩
  | d :: ds, e :: es, b, h => by
    simp only [eqDL] at h
    split at h
    · rename_i a b' h1 h2
      obtain ⟨f, hf, hb⟩ := eqDL_get h2
      refine ⟨fun i => match i with | 0 => a | i + 1 => f i, fun i d' e' g1 g2 => ?_, ?_⟩
      · cases i with
        | zero =>
          simp at g1 g2
          subst g1 g2
          exact h1
        | succ i =>
          simp at g1 g2
          exact hf i d' e' g1 g2
      · have := Option.some.inj h
        subst this
        rw [List.length_cons, List.length_cons, Nat.add_min_add_right, List.range_succ_eq_map, List.all_cons, List.all_map, hb]
        rfl
    · cases h
theorem depDL_get : ∀ {l : List D} {i : Nat} {d : D}, l[i]? = some d → depD d ≤ depDL l
  | [], i, d, h => by simp at h
  | x :: xs, 0, d, h => by
    simp at h
    subst h
    simp only [depDL]
    omega
  | x :: xs, i + 1, d, h => by
    have := depDL_get (l := xs) (i := i) (by simpa using h)
    simp only [depDL]
    omega
theorem ftn_fun {C : Addr} {H : Hp} {t u : T} {v : V} (h1 : Ftn C H t v) (h2 : Ftn C H u v) : t = u := by
  obtain ⟨a, dx, b, n, vs, rfl, e1, _⟩ := ftn_iff.mp h1
  obtain ⟨a2, dx2, b2, n2, vs2, ea, e2, _⟩ := ftn_iff.mp h2
  cases ea
  rw [e1] at e2
  have e3 := HO.ins.inj (Option.some.inj e2)
  have e4 : some (V.str (tx t)) = some (V.str (tx u)) := by rw [← fl_w (t := t) (b := b) (n := n), ← fl_w (t := u) (b := b2) (n := n2), e3.2.2]
  exact tx_inj (V.str.inj (Option.some.inj e4))
theorem eqV_self : ∀ {x : V}, flatV x = true → eqV x x = true
  | .non, _ => rfl
  | .bl b, _ => by simp [eqV]
  | .int i, _ => by simp [eqV]
  | .str z, _ => by simp [eqV]
  | .byt _, h => by cases h
  | .flt _, h => by cases h
  | .ref _, h => by cases h
  | .ty _, h => by cases h
section
variable {X : Cx} {c : AC X.K} {H : Hp} {pins : List (Addr × Obj)} {σ : L2.St} {s : Shared}
mutual
theorem eq_same (I : L2.Inv X pins σ H s) : ∀ (d e : D) (v : V) (b : Bool), Rep c H d v → Rep c H e v → eqDD d e = some b → b = true
  | .tup l, .tup m, v, b, r1, r2, h => by
    obtain ⟨p, vs, rfl, e1, rs⟩ := rep_tup.mp r1
    obtain ⟨q, ws, e, e2, rs2⟩ := rep_tup.mp r2
    cases e
    have : vs = ws := I.tuple_inj e1 e2
    subst this
    simp only [eqDD, Option.map_eq_some_iff] at h
    obtain ⟨b', h1, rfl⟩ := h
    have hl : l.length = m.length := by rw [← rs.len, ← rs2.len]
    rw [eqL_same I l m vs b' rs rs2 h1, hl]
    simp
  | .tree t, .tree u, v, b, r1, r2, h => by
    simp only [eqDD, Option.some.injEq] at h
    rw [← h, ftn_fun (rep_tree.mp r1) (rep_tree.mp r2)]
    simp
  | d, e, v, b, r1, r2, h => by
    by_cases hf : (flatB d && flatB e) = true
    · have hf' := Bool.and_eq_true_iff.mp hf
      obtain ⟨e1, f1⟩ := flat_low r1 hf'.1
      obtain ⟨e2, f2⟩ := flat_low r2 hf'.2
      have hs := eqV_self f1
      have hb : eqDD d e = some (eqV (vD d) (vD e)) := by
        unfold eqDD
        split
        · cases hf'.1
        · cases hf'.1
        · rw [if_pos hf]
      rw [hb, ← e1, ← e2] at h
      rw [hs] at h
      exact (Option.some.inj h).symm
    · have hn : ∀ l m, ¬ (d = .tup l ∧ e = .tup m) ∨ True := fun _ _ => .inr trivial
      cases d <;> cases e <;> first
        | (simp [eqDD, flatB] at h; done)
        | (exact absurd rfl hf)
        | (obtain ⟨p, vs, rfl, e1, rs⟩ := rep_tup.mp r1
           obtain ⟨q, ws, e, e2, rs2⟩ := rep_tup.mp r2
           cases e
           have : vs = ws := I.tuple_inj e1 e2
           subst this
           simp only [eqDD, Option.map_eq_some_iff] at h
           obtain ⟨b', h1, rfl⟩ := h
           rw [eqL_same I _ _ vs b' rs rs2 h1, ← rs.len, ← rs2.len]
           simp)
        | (simp only [eqDD, Option.some.injEq] at h
           rw [← h, ftn_fun (rep_tree.mp r1) (rep_tree.mp r2)]
           simp)
theorem eqL_same (I : L2.Inv X pins σ H s) : ∀ (l m : List D) (vs : List V) (b : Bool), RepL c H l vs → RepL c H m vs → eqDL l m = some b → b = true
  | [], m, vs, b, _, _, h => by simpa [eqDL] using h.symm
  | d :: ds, [], vs, b, _, _, h => by simpa [eqDL] using h.symm
  | d :: ds, e :: es, vs, b, r1, r2, h => by
    obtain ⟨v, ws, rfl, a1, a2⟩ := repL_cons.mp r1
    obtain ⟨v', ws', e1, b1, b2⟩ := repL_cons.mp r2
    injection e1 with e1 e2
    subst e1 e2
    simp only [eqDL] at h
    split at h
    · rename_i x y h1 h2
      have := Option.some.inj h
      rw [← this, eq_same I d e v x a1 b1 h1, eqL_same I ds es ws y a2 b2 h2]
      rfl
    · cases h
end
end
section
variable {X : Cx} {c : AC X.K} {k : Nat} {ps : List Str} {H : Hp} {σ : L2.St} {pins : List (Addr × Obj)}
abbrev MEq (X : Cx) (k : Nat) (ps : List Str) : Prop := MethD X.prog X.w X.K X.mg X.base CX0 k (cF X.K) "__eq__" ps [] (spEqF X.K)
theorem rcF_run (M : MEq X k ps) {A : Around} {s : Shared} {t u : T} {x y : V} {v w : Value} (sb : Sub X k A) (I : Inv X pins σ H s) (rx : RelV x v) (ry : RelV y w) (h1 : Ftn (cF X.K) H t x) (h2 : Ftn (cF X.K) H u y) :
    wpAny (model X.prog X.w) A (richCompare .Eq v w) (fun r s' => r = .bool (decide (t = u)) ∧ Inv X pins σ H s') X.xe s := by
  obtain ⟨a, dx, fs, rfl, ha⟩ := ftn_ins h1
  obtain ⟨b, dy, gs, rfl, hb⟩ := ftn_ins h2
  cases rx
  cases ry
  obtain ⟨f, fd, ds, hm, hbd, hd, F⟩ := M.ex
  cases hd
  obtain ⟨mA, J, _⟩ := ins_get I.hok ha
  obtain ⟨mB, J', _⟩ := ins_get I.hok hb
  obtain ⟨od, J, _⟩ := J.look
  obtain ⟨od', J', _⟩ := J'.look
  obtain ⟨m, hF⟩ := I.fr
  refine PySem.W.cmp_K (op := .Eq) (tb := .ref (cF X.K)) sb.room.units0 hF I.ok.mod.kin J J'.type (by simp [PySem.W.notFirst]) hm.at_ hm.fn ?_
  have hsp : spEqF X.K [.ref a, .ref b] H (fun v H' => v = .bl (decide (t = u)) ∧ H' = H) (fun _ _ _ => True) := ⟨_, _, t, u, rfl, h1, h2, rfl, rfl⟩
  have e0 : Env0 X.prog X.w X.K X.mg X.base A X.stack s H := by
    have e := I.env0
    exact ⟨sb.fr.trans e.frames, e.mod, e.bs, e.bsz, e.funs, e.frf, e.hok, e.bare⟩
  have hl : ([Value.ref a, Value.ref b] ++ []).length = ps.length := by
    rw [← F.len _ _ _ _ hsp]
    rfl
  refine wpAny_call (codeAny_mono (F.run A X.stack s H ⟨[.ref a, .ref b], []⟩ [.ref a, .ref b] [.ref a, .ref b] _ (fun _ _ _ => True) sb.room e0 (by
    have := hbd s [.ref a, .ref b] I.kIn hl
    simpa using this) (.cons rfl (.cons rfl .nil)) hsp) fun r s' hq => ?_)
  cases r with
  | error er => exact False.elim hq
  | ok fl =>
    cases fl with
    | ret z =>
      obtain ⟨x', H', I', rz, ez, eh⟩ := I.after hq
      subst ez eh
      cases rz
      exact ⟨rfl, I'⟩
    | next => exact False.elim hq
    | brk => exact False.elim hq
    | cont => exact False.elim hq
theorem sub_in1 {n : Nat} {A : Around} (s : Sub X (n + 1) A) : Sub X n A.in1 := s.in1
theorem eq_run (M : MEq X k ps) : ∀ (n : Nat) (d e : D) (b : Bool), depD d ≤ n → eqDD d e = some b → ∀ {A : Around} {s : Shared} {x y : V} {v w : Value}, Sub X (k + 2 + n) A → Inv X pins σ H s → RelV x v → RelV y w → Rep c H d x → Rep c H e y →
    wpAny (model X.prog X.w) A (eqBool v w) (fun r s' => r = b ∧ Inv X pins σ H s') X.xe s := by
  intro n
  induction n with
  | zero =>
    intro d e b hd h A s x y v w sb I rx ry r1 r2
    by_cases hf : (flatB d && flatB e) = true
    · have hf' := Bool.and_eq_true_iff.mp hf
      obtain ⟨e1, f1⟩ := flat_low r1 hf'.1
      obtain ⟨e2, f2⟩ := flat_low r2 hf'.2
      have hb : eqDD d e = some (eqV (vD d) (vD e)) := by
        unfold eqDD
        split
        · cases hf'.1
        · cases hf'.1
        · rw [if_pos hf]
      rw [hb] at h
      have hv := eqAt_V (A := A) (s := s) rx ry f1 f2
      rw [e1, e2, Option.some.inj h] at hv
      exact hv X.prog X.w X.xe _ ⟨rfl, I⟩
    · unfold eqDD at h
      split at h
      · simp only [depD] at hd
        omega
      · rename_i t u
        have h1 := rep_tree.mp r1
        have h2 := rep_tree.mp r2
        have hb := Option.some.inj h
        obtain ⟨p, dx, fs, rfl, _⟩ := ftn_ins h1
        obtain ⟨q, dy, gs, rfl, _⟩ := ftn_ins h2
        cases rx
        cases ry
        by_cases hpq : p = q
        · subst hpq
          have : t = u := ftn_fun h1 h2
          exact SeqAt.EqAt.same (A := A) (s := s) (.ref p) X.prog X.w X.xe _ ⟨by rw [← hb]; simp [this], I⟩
        · refine GQ.eqBool_refG hpq (wpAny_mono (rcF_run (x := .ref p) (y := .ref q) M (sb.mono (by omega)) I rfl rfl h1 h2) (fun r s' z => ?_) fun _ _ z => z)
          obtain ⟨er, I'⟩ := z
          exact ⟨_, er, hb, I'⟩
      · rw [if_neg hf] at h
        cases h
  | succ n ih =>
    intro d e b hd h A s x y v w sb I rx ry r1 r2
    by_cases h0 : depD d ≤ n
    · exact ih d e b h0 h (sb.mono (by omega)) I rx ry r1 r2
    · cases d with
      | tup l =>
        cases e with
        | tup m =>
          obtain ⟨p, vs, rfl, e1, rs⟩ := rep_tup.mp r1
          obtain ⟨q, ws, rfl, e2, rs2⟩ := rep_tup.mp r2
          cases rx
          cases ry
          by_cases hpq : p = q
          · subst hpq
            exact SeqAt.EqAt.same (A := A) (s := s) (.ref p) X.prog X.w X.xe _ ⟨(eq_same I _ _ _ b r1 r2 h).symm, I⟩
          · refine GQ.eqBool_refG hpq ?_
            simp only [eqDD, Option.map_eq_some_iff] at h
            obtain ⟨b', h1, hb⟩ := h
            obtain ⟨f, hf, hb'⟩ := eqDL_get h1
            obtain ⟨its, rv, t1, _⟩ := I.tuple e1
            obtain ⟨its2, rv2, t2, _⟩ := I.tuple e2
            have z1 : its.toArray.size = l.length := by rw [List.size_toArray, ← rv.length, rs.len]
            have z2 : its2.toArray.size = m.length := by rw [List.size_toArray, ← rv2.length, rs2.len]
            have hd' : depDL l ≤ n := by
              simp only [depD] at hd
              omega
            refine rc_tup_any f false (fun s' => Inv X pins σ H s') sb.room.units0 t1 t2 (fun i i1 i2 s1 I1 => ?_) (fun s1 b1 I1 eb => ⟨b1, rfl, ?_, I1⟩) I
            · have j1 : i < l.length := by omega
              have j2 : i < m.length := by omega
              have g1 := List.getElem?_eq_getElem j1
              have g2 := List.getElem?_eq_getElem j2
              obtain ⟨x1, x2, x3⟩ := rs.get g1
              obtain ⟨y1, y2, y3⟩ := rs2.get g2
              obtain ⟨u1, u2, u3⟩ := rv.get x2
              obtain ⟨w1, w2, w3⟩ := rv2.get y2
              have q1 : its.toArray[i] = u1 := by
                have j3 : i < its.length := by simpa using i1
                rw [List.getElem?_eq_getElem j3] at u2
                simpa using u2
              have q2 : its2.toArray[i] = w1 := by
                have j3 : i < its2.length := by simpa using i2
                rw [List.getElem?_eq_getElem j3] at w2
                simpa using w2
              rw [q1, q2]
              exact ih _ _ _ (Nat.le_trans (depDL_get g1) hd') (hf i _ _ g1 g2) (sub_in1 sb) I1 u3 w3 x3 y3
            · rw [eb, z1, z2, ← hb, hb', Bool.false_xor]
        | _ => simp [eqDD, flatB] at h
      | _ => exact absurd (Nat.zero_le _) h0
theorem items_run (M : MEq X k ps) {n : Nat} {l m : List D} (hd : depDL l ≤ n) {f : Nat → Bool} (hf : ∀ (i : Nat) d e, l[i]? = some d → m[i]? = some e → eqDD d e = some (f i)) {A : Around} (sb : Sub X (k + 2 + (n + 1)) A) {vs ws : List V} {its its2 : List Value}
    (rs : RepL c H l vs) (rs2 : RepL c H m ws) (rv : Vals vs its) (rv2 : Vals ws its2) (i : Nat) (i1 : i < its.toArray.size) (i2 : i < its2.toArray.size) {s1 : Shared} (I1 : Inv X pins σ H s1) :
    wpAny (model X.prog X.w) A.in1 (eqBool its.toArray[i] its2.toArray[i]) (fun r s' => r = f i ∧ Inv X pins σ H s') X.xe s1 := by
  have j1 : i < l.length := by
    have := i1
    rw [List.size_toArray, ← rv.length, rs.len] at this
    exact this
  have j2 : i < m.length := by
    have := i2
    rw [List.size_toArray, ← rv2.length, rs2.len] at this
    exact this
  have g1 := List.getElem?_eq_getElem j1
  have g2 := List.getElem?_eq_getElem j2
  obtain ⟨x1, x2, x3⟩ := rs.get g1
  obtain ⟨y1, y2, y3⟩ := rs2.get g2
  obtain ⟨u1, u2, u3⟩ := rv.get x2
  obtain ⟨w1, w2, w3⟩ := rv2.get y2
  have q1 : its.toArray[i] = u1 := by
    have j3 : i < its.length := by simpa using i1
    rw [List.getElem?_eq_getElem j3] at u2
    simpa using u2
  have q2 : its2.toArray[i] = w1 := by
    have j3 : i < its2.length := by simpa using i2
    rw [List.getElem?_eq_getElem j3] at w2
    simpa using w2
  rw [q1, q2]
  exact eq_run M n _ _ _ (Nat.le_trans (depDL_get g1) hd) (hf i _ _ g1 g2) (sub_in1 sb) I1 u3 w3 x3 y3
def eqSq (neg : Bool) (l m : List D) (L : Store) (Q : AQ) : Prop := ∃ b, eqDL l m = some b ∧ depDL l ≤ 70 ∧ Q (.bl (neg ^^ (b && l.length == m.length))) L
def eqG (neg : Bool) : D → D → Store → AQ → Prop
  | .ref p, .ref q, L, Q => ∃ l m, L p = some (.lst l) ∧ L q = some (.lst m) ∧ eqSq neg l m L Q
  | .tup l, .tup m, L, Q => eqSq neg l m L Q
  | d, e, L, Q => eqD neg d e L Q
def rSq (neg : Bool) (c : AC X.K) : R2 := fun x y H Q => ∃ p q vs ws l m b, x = .ref p ∧ y = .ref q ∧ RepL c H l vs ∧ RepL c H m ws ∧ eqDL l m = some b ∧ depDL l ≤ 70 ∧ ((H p = some (.lst vs) ∧ H q = some (.lst ws)) ∨ (SqT X.K H p vs ∧ SqT X.K H q ws)) ∧ Q (.bl (neg ^^ (b && l.length == m.length))) H
theorem op_sq (M : MEq X k ps) (neg : Bool) (hr : Room (k + 73) X.A) : OpR X (fun a b => richCompare (if neg then .NotEq else .Eq) a b) (rSq neg c) := by
  intro pins s σ H x y v u Q I rx ry h
  obtain ⟨p, q, vs, ws, l, m, b, rfl, rfl, rs, rs2, h1, hd, ho, hq⟩ := h
  cases rx
  cases ry
  obtain ⟨f, hf, hb⟩ := eqDL_get h1
  have sb : Sub X (k + 2 + (70 + 1)) X.A := ⟨hr, rfl⟩
  have fin : ∀ {s1 : Shared} {b1 : Bool}, Inv X pins σ H s1 → b1 = (neg ^^ (b && l.length == m.length)) → EP X pins σ Q (.bool b1) s1 := fun I1 e => by
    subst e
    exact ⟨.bl _, H, I1, rfl, hq⟩
  rcases ho with ⟨e1, e2⟩ | ⟨e1, e2⟩
  · obtain ⟨its, rv, ⟨o1, c1, o2, o3, o4, o5⟩, _⟩ := I.list (SqL.of e1)
    obtain ⟨its2, rv2, _, _⟩ := I.list (SqL.of e2)
    by_cases hlm : l.length = m.length
    · refine rc_list_any l.length f neg (fun s' => Inv X pins σ H s') sb.room.units0 (fun s0 I0 => ?_) (fun s1 b1 I1 eb => fin I1 ?_) I
      · obtain ⟨z, us, n1, r1, k1⟩ := I0.hok p _ e1
        obtain ⟨z2, us2, n2, r2, k2⟩ := I0.hok q _ e2
        exact ⟨us.toArray, us2.toArray, n1, n2, k1, k2, by rw [List.size_toArray, ← r1.length, rs.len], by rw [List.size_toArray, ← r2.length, rs2.len, hlm], fun i i1 i2 => items_run M hd hf sb rs rs2 r1 r2 i i1 i2 I0⟩
      · rw [eb, hb, hlm, Nat.min_self]
        simp
    · obtain ⟨z, us, n1, r1, k1⟩ := I.hok p _ e1
      obtain ⟨z2, us2, n2, r2, k2⟩ := I.hok q _ e2
      have hne : (us.toArray.size != us2.toArray.size) = true := by
        rw [List.size_toArray, List.size_toArray, ← r1.length, ← r2.length, rs.len, rs2.len]
        simpa using hlm
      have hf0 : (l.length == m.length) = false := by simpa using hlm
      cases neg with
      | false => exact SeqAt.RcAt.lists_lengths ⟨_, k1, rfl, n1, rfl⟩ ⟨_, k2, rfl, n2, rfl⟩ hne sb.room.units0 _ _ _ _ (fin I (by rw [hf0]; simp))
      | true => exact SeqAt.RcNeAt.lists_lengths ⟨_, k1, rfl, n1, rfl⟩ ⟨_, k2, rfl, n2, rfl⟩ hne sb.room.units0 _ _ _ _ (fin I (by rw [hf0]; simp))
  · obtain ⟨its, rv, t1, _⟩ := I.tuple e1
    obtain ⟨its2, rv2, t2, _⟩ := I.tuple e2
    have z1 : its.toArray.size = l.length := by rw [List.size_toArray, ← rv.length, rs.len]
    have z2 : its2.toArray.size = m.length := by rw [List.size_toArray, ← rv2.length, rs2.len]
    refine rc_tup_any f neg (fun s' => Inv X pins σ H s') sb.room.units0 t1 t2 (fun i i1 i2 s1 I1 => items_run M hd hf sb rs rs2 rv rv2 i i1 i2 I1) (fun s1 b1 I1 eb => fin I1 ?_) I
    rw [eb, z1, z2, hb]
theorem eqG_low {neg : Bool} {r1 : R2} (h1 : LowR2 c r1 (eqD neg)) : LowR2 c (fun x y H Q => r1 x y H Q ∨ rSq neg c x y H Q) (eqG neg) := by
  intro x y H Q d e L R rx ry g h pq
  unfold eqG at h
  split at h
  · obtain ⟨l, m, e1, e2, b, h2, h3, h4⟩ := h
    obtain ⟨vs, e3, rs⟩ := good_lst g e1
    obtain ⟨ws, e4, rs2⟩ := good_lst g e2
    exact .inr ⟨_, _, vs, ws, l, m, b, rep_ref.mp rx, rep_ref.mp ry, rs, rs2, h2, h3, .inl ⟨e3, e4⟩, pq.here h4 g (rep_bl.mpr rfl)⟩
  · obtain ⟨b, h2, h3, h4⟩ := h
    obtain ⟨p, vs, rfl, e3, rs⟩ := rep_tup.mp rx
    obtain ⟨q, ws, rfl, e4, rs2⟩ := rep_tup.mp ry
    exact .inr ⟨p, q, vs, ws, _, _, b, rfl, rfl, rs, rs2, h2, h3, .inr ⟨e3, e4⟩, pq.here h4 g (rep_bl.mpr rfl)⟩
  · exact .inl (h1 x y H Q d e L R rx ry g h pq)
theorem aop_eqG (M : MEq X k ps) (hr : Room (k + 73) X.A) (hu : X.A.units + 64 < cLine) : AOp X c (compareOp .Eq) (eqG false) := by
  obtain ⟨r, h1, h2⟩ := (aop_eq (c := c) M (hr.mono (by omega)) hu).ex
  exact .mk' (h1.or (op_sq M false hr)) (eqG_low h2)
theorem aop_neG (cl : ClsF X.K X.mg) (M : MEq X k ps) (hr : Room (k + 73) X.A) (hu : X.A.units + 64 < cLine) : AOp X c (compareOp .NotEq) (eqG true) := by
  obtain ⟨r, h1, h2⟩ := (aop_ne (c := c) cl M (hr.mono (by omega)) hu).ex
  exact .mk' (h1.or (op_sq M true hr)) (eqG_low h2)
end
end AL
namespace AL
open PySem PySem.Spec PyProof.Rows L2 LamX JW
section
variable {X : Cx} {c : AC X.K} {H0 : Hp} {e : Expr} {a : ATE} {pos : Pos} {k : Nat} {f : Str}
theorem av (i : Nat) {x : Str} (hN : X.N[i]? = some x := by rfl) (hv : Vis X.env.scope x := by first | exact Or.inl rfl | exact Or.inr (Or.inl rfl) | exact Or.inr (Or.inr rfl)) (hd : (x == ("__debug__" : Str)) = false := by decide) (hcd : (x == ("__classdict__" : Str)) = false := by decide) : AE X c H0 (.Name x pos) (aVar i) := ae_var hN hv hd hcd
theorem ae_propG (g : T → D) {fV : T → V} (hg : ∀ H t, Rep c H (g t) (fV t)) (cl : Cls X.K (cF X.K)) (M : PropD X.prog X.w X.K X.mg X.base CX0 k (cF X.K) f (spV X.K fV)) (hr : Room (k + 1) X.A) (he : AE X c H0 e a) (hab : attributeBase e f X.env (eval e X.env) = eval e X.env) : AE X c H0 (.Attribute e f pos) (aProp g a) := ae_prop cl M hg hr he hab
def asVia (t : ATS) : ATS := fun D env L => ∃ R : En → Store → Prop, t { D with nx := R } env L ∧ ∀ e l, R e l → D.nx e l
theorem as_via {st : Stmt} {t : ATS} (h : AS X c H0 st t) : AS X c H0 st (asVia t) := by
  refine h.imp fun D σ H ⟨env, L, R, rl, ⟨N, h1, h2⟩, er⟩ => ?_
  exact ⟨env, L, { R with nx := N }, rl, h1, ⟨fun e l σ' H' r s rl' => er.nx e l σ' H' (h2 e l r) s rl', er.rt, er.bk, er.ct⟩⟩
end
section
variable {X : Cx} {c : AC X.K} {H0 : Hp} {e f g : Expr} {a : ATE} {as : ATA} {pos : Pos}
def sortedD : List D → Store → AQ → Prop
  | [.ref p], L, Q => (∃ ss : List Str, L p = some (.lst (ss.map D.str)) ∧ ss.length < 64 ∧ ∀ (ys : List Str) (r : Addr), ys.Perm ss → sortedS ys = true → L r = none → Q (.ref r) (sput L r (.lst (ys.map D.str)))) ∨
      ∃ ns : List Int, L p = some (.lst (ns.map D.int)) ∧ ns.length < 64 ∧ ∀ (ms : List Int) (r : Addr), ms.Perm ns → ms.Pairwise (· ≤ ·) → L r = none → Q (.ref r) (sput L r (.lst (ms.map D.int)))
  | _, _, _ => False
theorem acb_sorted : ACB X c (.builtin "sorted") sortedD := by
  refine .mk' (cr_sortedS.or cr_sorted) fun vs H Q ds L R r g h pq => ?_
  unfold sortedD at h
  split at h
  · rename_i p
    obtain ⟨v, rfl, r1⟩ := repL_one r
    cases rep_ref.mp r1
    rcases h with ⟨ss, e0, hz, h⟩ | ⟨ns, e0, hz, h⟩
    · obtain ⟨ws, e1, rs⟩ := good_lst g e0
      rw [RepL.strs.mp rs] at e1
      exact .inl ⟨p, ss, rfl, SqL.of e1, hz, fun ys q h1 h2 hq => pq.alloc hq (h ys q h1 h2 (g.fresh hq)) g ⟨_, upd_same, RepL.strs.mpr rfl⟩⟩
    · obtain ⟨ws, e1, rs⟩ := good_lst g e0
      rw [RepL.ints.mp rs] at e1
      exact .inr ⟨p, ns, rfl, SqL.of e1, hz, fun ys q h1 h2 hq => pq.alloc hq (h ys q h1 h2 (g.fresh hq)) g ⟨_, upd_same, RepL.ints.mpr rfl⟩⟩
  · exact h.elim
end
theorem law_low {K : PySem.W.Frag} {c : AC K} {H : Hp} {a : ATS} {p : Addr} {ns : List Int} {N : List Str} {Q : VK} (hs : c.scr = some (p, ns)) (hl : ns.length ≤ 63) (hS : SqL K H p (ns.map V.int)) (hT : Tabs c.TT H) (k : ∀ H', Q (.bl true) H')
    (vc : a (fnEnds fun d _ => d = .bl true) (startA N [.scr]) law0) : lowS c H a { nx := fun _ H' => Q .non H', rt := Q } (L2.start N [.ref p]) H :=
  body_low (.one (rep_scr.mpr ⟨p, ns, hs, rfl⟩)) (good_law hs hl hS hT) (fun d L' v H' e s g r => by
    subst e
    rw [rep_bl.mp r]
    exact k H') vc
def feedM : MO := .opq fun o => ∃ a b c : Int, o = .dK (feedD a b c)
theorem feed_at {K : PySem.W.Frag} {c : AC K} {H : Hp} {L : Store} {d : Addr} (g : Good c L H) (e : L d = some feedM) : FeedAt H d := by
  obtain ⟨o, e1, ⟨x, y, z, rfl⟩, _⟩ := g.st d _ e
  exact ⟨x, y, z, e1⟩
theorem feed_m {K : PySem.W.Frag} {c : AC K} {H : Hp} {d : Addr} (h : FeedAt H d) : MRep c H d feedM := by
  obtain ⟨x, y, z, e⟩ := h
  exact ⟨_, e, ⟨x, y, z, rfl⟩, fun z => z, fun _ z => (by cases z), fun _ z => (by cases z), fun _ ⟨_, _, _, z⟩ => (by cases z)⟩
def outD (t : T) (L : Store) (Q : AQ) (RX : AX) : Prop :=
  (5000 < t.size → RX "TooLarge" [("pieces", .int (t.size : Nat))] L) ∧ (t.size ≤ 5000 → 120 < t.dep → RX "TooDeep" [("basins", .int (t.dep : Nat))] L) ∧ (t.size ≤ 5000 → t.dep ≤ 120 → Q (.tree t) L)
def noX : AX := fun _ _ _ => False
theorem px_no {K : PySem.W.Frag} {c : AC K} {H : Hp} {E : XK} : Px c H noX E := fun _ _ _ _ _ h => h.elim
end AL
namespace AL
open PySem PySem.Spec PyProof.Rows L2 LamX JW
theorem perm_tx : ∀ {ys zs : List Str}, ys.Perm zs → ∀ {l : List T}, zs = l.map tx → ∃ us : List T, us.Perm l ∧ ys = us.map tx := by
  intro ys zs p
  induction p with
  | nil =>
    intro l e
    cases l with
    | nil => exact ⟨[], .refl _, rfl⟩
    | cons t r => cases e
  | cons x p ih =>
    intro l e
    cases l with
    | nil => cases e
    | cons t r =>
      cases e
      obtain ⟨us, p1, e1⟩ := ih rfl
      exact ⟨t :: us, p1.cons t, by rw [e1]; rfl⟩
  | swap x y zs =>
    intro l e
    match l, e with
    | t :: u :: r, e =>
      cases e
      exact ⟨u :: t :: r, .swap t u r, rfl⟩
  | trans p q ih1 ih2 =>
    intro l e
    obtain ⟨us, p1, e1⟩ := ih2 e
    obtain ⟨vs, p2, e2⟩ := ih1 e1
    exact ⟨vs, p2.trans p1, e2⟩
theorem rising_srt : ∀ (l : List T) (t : T), risingS (tx t) (l.map tx) = true → Srt (t :: l)
  | [], t, _ => List.pairwise_cons.mpr ⟨fun _ h => absurd h List.not_mem_nil, List.Pairwise.nil⟩
  | u :: l, t, h => by
    have h' : (!ltCps (tx u).cps.toList (tx t).cps.toList && risingS (tx u) (l.map tx)) = true := h
    rw [Bool.and_eq_true, Bool.not_eq_true', ltCps_eq] at h'
    have r := rising_srt l u h'.2
    have hu : tle t u = true := by
      unfold tle
      have e1 : (tx u).cps.toList = u.codes := by unfold tx; rfl
      have e2 : (tx t).cps.toList = t.codes := by unfold tx; rfl
      rw [← e1, ← e2, h'.1]
      rfl
    refine List.pairwise_cons.mpr ⟨fun v hv => ?_, r⟩
    rcases List.mem_cons.mp hv with e | e
    · rw [e]; exact hu
    · exact tle_trans _ _ _ hu ((List.pairwise_cons.mp r).1 v e)
theorem sorted_tx {l : List T} {ys : List Str} (p : ys.Perm (l.map tx)) (h : sortedS ys = true) : ys = (sortT l).map tx := by
  obtain ⟨us, p1, rfl⟩ := perm_tx p rfl
  have : Srt us := by
    cases us with
    | nil => exact List.Pairwise.nil
    | cons t r => exact rising_srt r t h
  rw [sortT_eq p1 this]
def dtx (t : T) : D := .str (tx t)
theorem dtx_map (l : List T) : l.map dtx = (l.map tx).map D.str := by rw [List.map_map]; rfl
def RowsAt (L : Store) (ps : List Addr) (st : List (List T)) : Prop := ps.Nodup ∧ ps.length = st.length ∧ ∀ (i : Nat) p l, ps[i]? = some p → st[i]? = some l → L p = some (.lst (l.map dtx))
theorem rows_top {L : Store} {ps : List Addr} {st : List (List T)} {l : List T} (h : RowsAt L ps (st ++ [l])) : ∃ qs p, ps = qs ++ [p] ∧ RowsAt L qs st ∧ L p = some (.lst (l.map dtx)) ∧ p ∉ qs := by
  obtain ⟨h1, h2, h3⟩ := h
  have hn : ps ≠ [] := fun z => by
    subst z
    simp at h2
  obtain ⟨qs, p, rfl⟩ : ∃ qs p, ps = qs ++ [p] := ⟨ps.dropLast, ps.getLast hn, (List.dropLast_concat_getLast hn).symm⟩
  rw [List.length_append, List.length_append] at h2
  have hl : qs.length = st.length := by
    have : [p].length = [l].length := rfl
    omega
  have hd := List.nodup_append.mp h1
  refine ⟨qs, p, rfl, ⟨hd.1, hl, fun i q m e1 e2 => ?_⟩, ?_, fun hm => hd.2.2 p hm p (List.mem_singleton.mpr rfl) rfl⟩
  · have i1 : i < qs.length := (List.getElem?_eq_some_iff.mp e1).1
    exact h3 i q m (by rw [List.getElem?_append_left i1]; exact e1) (by rw [List.getElem?_append_left (by omega)]; exact e2)
  · exact h3 qs.length p l (by simp) (by rw [hl]; simp)
theorem rows_push {L : Store} {qs : List Addr} {st : List (List T)} {l : List T} {p : Addr} (h : RowsAt L qs st) (hp : p ∉ qs) (e : L p = some (.lst (l.map dtx))) : RowsAt L (qs ++ [p]) (st ++ [l]) := by
  obtain ⟨h1, h2, h3⟩ := h
  refine ⟨List.nodup_append.mpr ⟨h1, by simp, fun a ha b hb => by rw [List.mem_singleton.mp hb]; rintro rfl; exact hp ha⟩, by rw [List.length_append, List.length_append, h2]; rfl, fun i q m e1 e2 => ?_⟩
  by_cases hi : i < qs.length
  · rw [List.getElem?_append_left hi] at e1
    rw [List.getElem?_append_left (by omega)] at e2
    exact h3 i q m e1 e2
  · rw [List.getElem?_append_right (by omega)] at e1
    rw [List.getElem?_append_right (by omega)] at e2
    obtain ⟨a1, a2⟩ := List.getElem?_eq_some_iff.mp e1
    obtain ⟨b1, b2⟩ := List.getElem?_eq_some_iff.mp e2
    have a3 : i - qs.length = 0 := by
      have : [p].length = 1 := rfl
      omega
    have b3 : i - st.length = 0 := by omega
    simp only [a3, b3] at a2 b2
    subst a2 b2
    exact e
theorem rows_keep {L L' : Store} {qs : List Addr} {st : List (List T)} (h : RowsAt L qs st) (k : ∀ p ∈ qs, L' p = L p) : RowsAt L' qs st :=
  ⟨h.1, h.2.1, fun i p l e1 e2 => (k p (List.mem_of_getElem? e1)).trans (h.2.2 i p l e1 e2)⟩
theorem rows_some {L : Store} {ps : List Addr} {st : List (List T)} (h : RowsAt L ps st) {p : Addr} (hp : p ∈ ps) : ∃ l : List T, L p = some (.lst (l.map dtx)) := by
  obtain ⟨i, hi⟩ := List.mem_iff_getElem?.mp hp
  have hi2 : i < st.length := by rw [← h.2.1]; exact (List.getElem?_eq_some_iff.mp hi).1
  exact ⟨_, h.2.2 i p _ hi (List.getElem?_eq_getElem hi2)⟩
theorem nem {α : Type} {a b : α} {l : List α} (h : a ∈ l) (k : b ∉ l) : a ≠ b := fun e => k (e ▸ h)
theorem last_get {α : Type} (l : List α) (x : α) : (l ++ [x])[(l ++ [x]).length - 1]? = some x := by simp
theorem atI_last {α : Type} (l : List α) (x : α) : atI (l ++ [x]) ((l ++ [x]).length - 1 : Int) = some x := by
  have e : ((l ++ [x]).length : Int) - 1 = ((l.length : Nat) : Int) := by rw [List.length_append, List.length_singleton]; omega
  rw [e]
  unfold atI
  unfold ixN
  rw [if_pos (by omega), if_pos (by omega)]
  simp
theorem joined {l : List T} (h : sizeL l ≤ 5000) : (((sortT l).map tx).map (·.length)).sum + ((sortT l).map tx).length * ("" : Str).length ≤ 16777216 := by
  have e : ("" : Str).length = 0 := rfl
  have h1 := codesL_len (sortT l)
  rw [sizeL_perm (sortT_perm l)] at h1
  rw [lens_tx, e]
  omega
theorem joinedS {l : List T} (h : sizeL l ≤ 5000) : (Txt.join "" ((sortT l).map tx)).length ≤ 10000 := by
  have h1 := codesL_len (sortT l)
  rw [sizeL_perm (sortT_perm l)] at h1
  rw [join_tx, SX.S_len]
  omega
theorem sizeL_canon (l : List T) : sizeL (l.map T.canon) = sizeL l := by
  rw [sizeL_sum, sizeL_sum, List.map_map, List.map_congr_left (f := T.size ∘ T.canon) fun t _ => canon_size t]
theorem depDL_map {α : Type} {f : α → D} (h : ∀ a, depD (f a) = 0) : ∀ l : List α, depDL (l.map f) = 0
  | [] => rfl
  | a :: l => by
    show max (depD (f a)) (depDL (l.map f)) = 0
    rw [h a, depDL_map h l]
    rfl
theorem eqDL_nil : ∀ l : List D, eqDL l [] = some true
  | [] => by simp [eqDL]
  | _ :: _ => by simp [eqDL]
theorem eqSq_nil {neg : Bool} {l : List D} {L : Store} {Q : AQ} (h : depDL l ≤ 70) (q : Q (.bl (neg ^^ (l.length == 0))) L) : eqSq neg l [] L Q :=
  ⟨true, eqDL_nil l, h, by rw [Bool.true_and]; exact q⟩
theorem cutD_take {α : Type} {f : α → D} {l : List α} {i : Int} {k : Nat} (h : i = (k : Nat)) : cutD (l.map f) none (some i) = (l.take k).map f := by
  subst h
  unfold cutD
  rw [HT.sIx_nat, HT.sIx_none, List.drop_zero, Nat.sub_zero, List.map_take, List.take_eq_take_iff]
  omega
theorem cutD_drop {α : Type} {f : α → D} {l : List α} {i : Int} {k : Nat} (h : i = (k : Nat)) : cutD (l.map f) (some i) none = (l.drop k).map f := by
  subst h
  unfold cutD
  rw [HT.sIx_nat, HT.sIx_none, List.map_drop]
  by_cases e : k ≤ (l.map f).length
  · rw [Nat.min_eq_left e]
    exact List.take_of_length_le (by rw [List.length_drop]; omega)
  · rw [Nat.min_eq_right (by omega), List.drop_of_length_le (Nat.le_refl _), List.drop_of_length_le (by omega)]
    simp
def atVia (t : ATT) : ATT := fun env L Q => ∃ R : Bool → Store → Prop, t env L R ∧ ∀ k l, R k l → Q k l
section
variable {X : Cx} {c : AC X.K} {H0 : Hp} {e : Expr} {t : ATT}
theorem at_via (ha : AT X c H0 e t) : AT X c H0 e (atVia t) := by
  refine ha.imp fun σ H Q ⟨env, L, R, rl, ⟨N, h1, h2⟩, pq⟩ => ?_
  exact ⟨env, L, N, rl, h1, fun k L1 H1 q s1 g1 => pq _ _ _ (h2 k L1 q) s1 g1⟩
end
end AL
namespace L2
open PySem PySem.Spec PyProof.Rows JW
section
variable {X : Cx} {CX : CXT} {k : Nat} {ps : List Str} {sp : Sp} {dvs : List V} {E : XK} {x : Str} {p pos : Pos} {e : Expr} {es : List Expr} {t : TA} {a b : Expr} {ta tb : TE} {tA : TT}
theorem pet_ifExp {c : Expr} (hc : PT X c tA) (ha : PET X a ta) (hb : PET X b tb) : PET X (.IfExp c a b pos) (tIf tA ta tb) := by
  intro pins s σ H Q h0 I h
  refine wpAny_IfExp (wpAny_mono (PySem.wpAny_toks (hc.run pins s σ H _ I h)) (fun d s1 q => ?_) fun _ _ z => z.2)
  obtain ⟨hk, H1, I1, q1⟩ := q
  cases d with
  | true => exact ha pins s1 σ H1 Q (Nat.le_trans h0 hk) I1 q1
  | false => exact hb pins s1 σ H1 Q (Nat.le_trans h0 hk) I1 q1
theorem pet_callD (C : CallD X.prog X.w X.K X.mg X.base CX k x ps dvs sp) (hr : Room k X.A) (hg : Gl X x) (hx : Passes CX X E) (ha : PAT X (e :: es) t) (hdb : (x == ("__debug__" : Str)) = false := by decide)
    (he : starEach (e :: es) X.env = (false, eval e X.env) :: starEach es X.env := by rfl) (hpl : (backTo pos (starEach es X.env)).any (·.1) = false := by rfl) : PET X (.Call (.Name x p) (e :: es) [] pos) (tCall sp dvs E t) := by
  obtain ⟨f, fd, ds, hm, hk, hb, hd, F⟩ := C.ex
  intro pins s σ H Q h0 I h
  refine wpAny_Call_Name_kw (ld_glob I hg hm ?_ hdb)
  refine PySem.W.callWith_K (h₀ := X.base) I.ok.mod.kin hk (thn (ha pos pins s σ H _ h0 I h) fun us s1 ⟨vs, H1, I1, r, q⟩ => ⟨I1.kIn, ?_⟩) he hpl
  exact run_fn F hr hb hd hx I1 r q
theorem PSsT.nox {st : List Stmt} {t : TS} (h : PSsT X.nox st t) : PSsT X st t := fun pins s σ H D h0 I hw =>
  wpAny_mono (h pins s σ H D h0 (I.wish _) hw) (fun _ _ q => q.unwish) fun _ _ z => False.elim z
end
end L2
namespace AL
open PySem PySem.Spec PyProof.Rows L2 LamX JW
section
variable (X : Cx) (c : AC X.K) (H0 : Hp)
def AET (e : Expr) (a : ATE) : Prop := PET X e (lowE c H0 a)
def AAT (es : List Expr) (a : ATA) : Prop := PAT X es (lowA c H0 a)
def AST (st : Stmt) (a : ATS) : Prop := PST X st (lowS c H0 a)
def ASsT (st : List Stmt) (a : ATS) : Prop := PSsT X st (lowS c H0 a)
end
section
variable {X : Cx} {c : AC X.K} {H0 : Hp} {e f g : Expr} {es : List Expr} {a b : ATE} {as : ATA} {pos p : Pos} {t : ATT} {st : Stmt} {rest : List Stmt} {s1 s2 : ATS} {k : Nat} {ps : List Str} {x : Str} {asp : ASp}
theorem aet_of (h : AE X c H0 e a) : AET X c H0 e a := CwR.PET.of h
theorem ast_of (h : AS X c H0 st s1) : AST X c H0 st s1 := PST.of h
theorem aat_nil : AAT X c H0 [] aNil := fun pos pins s σ H Q h0 I ⟨_, _, _, rl, h, pq⟩ => pat_nil pos pins s σ H Q h0 I (pq _ _ _ _ h (.refl c H) rl.good RepL.nil)
theorem aat_cons (ha : AET X c H0 e a) (hr : AAT X c H0 es as) (hs : starEach (e :: es) X.env = (false, eval e X.env) :: starEach es X.env := by rfl) : AAT X c H0 (e :: es) (aCons a as) := by
  intro pos pins s σ H Q h0 I ⟨env, L, R, rl, h, pq⟩
  refine pat_cons ha hr hs pos pins s σ H Q h0 I ?_
  refine ⟨env, L, _, rl, h, fun d L1 x H1 hb s1 g1 r1 => ?_⟩
  exact ⟨env, L1, _, rl.step s1 g1, hb, fun ds L2 xs H2 q s2 g2 r2 => pq _ _ _ _ q (s1.trans s2) g2 (RepL.cons (r1.fr s2) r2)⟩
theorem aet_if (hc : AT X c H0 e t) (ha : AET X c H0 f a) (hb : AET X c H0 g b) : AET X c H0 (.IfExp e f g pos) (aIf t a b) := by
  intro pins s σ H Q h0 I ⟨env, L, R, rl, h, pq⟩
  refine pet_ifExp hc ha hb pins s σ H Q h0 I ?_
  refine ⟨env, L, _, rl, h, fun k L1 H1 q s1 g1 => ?_⟩
  cases k with
  | true => exact ⟨env, L1, R, rl.step s1 g1, q, pq.fr s1⟩
  | false => exact ⟨env, L1, R, rl.step s1 g1, q, pq.fr s1⟩
def aReplC (a : ATE) (y z : Str) : ATE := fun env L Q => a env L fun d L1 => strE d fun x => x.length + (x.length + 1) * z.length ≤ 16777216 ∧ Q (.str (Txt.replace x y z)) L1
theorem aet_replC {o : Expr} {y z : Str} {j k : Nat} {c0 c1 apos : Pos} (ho : AE X c H0 o a) (hyz : (y == z) = false := by decide)
    (hst : starEach [.Constant (.str y) j c0, .Constant (.str z) k c1] X.env = [(false, eval (.Constant (.str y) j c0) X.env), (false, eval (.Constant (.str z) k c1) X.env)] := by rfl)
    (hbase : attributeBase o "replace" X.env (eval o X.env) = eval o X.env := by rfl) (hline : (apos.endLine == pos.line) = true := by rfl) :
    AET X c H0 (.Call (.Attribute o "replace" apos) [.Constant (.str y) j c0, .Constant (.str z) k c1] [] pos) (aReplC a y z) := by
  intro pins s σ H Q h0 I ⟨env, L, R, rl, h, pq⟩
  refine CwR.pet_replC ho hyz hst hbase hline pins s σ H Q h0 I ?_
  refine ⟨env, L, _, rl, h, fun d L1 v H1 q s1 g1 r1 => ?_⟩
  cases d with
  | str x => exact ⟨x, rep_str.mp r1, q.1, pq (.str (Txt.replace x y z)) L1 _ _ q.2 s1 g1 (rep_str.mpr rfl)⟩
  | _ => exact q.elim
theorem aet_call (C : CallD X.prog X.w X.K X.mg X.base CX0 k x ps [] (spA c asp)) (hr : Room k X.A) (hg : Gl X x) (ha : AAT X c H0 (e :: es) as) (hdb : (x == ("__debug__" : Str)) = false := by decide)
    (he : starEach (e :: es) X.env = (false, eval e X.env) :: starEach es X.env := by rfl) (hpl : (backTo pos (starEach es X.env)).any (·.1) = false := by rfl) : AET X c H0 (.Call (.Name x p) (e :: es) [] pos) (aCall asp as) := by
  intro pins s σ H Q h0 I q
  refine pet_callD (E := fun _ _ _ => True) C hr hg pass0 ha hdb he hpl pins s σ H Q h0 I (low_call (dd := []) (RX := anyX) (fun _ => RepL.nil) ?_ fun _ _ => px_any)
  obtain ⟨env, L, R, rl, h, pq⟩ := q
  refine ⟨env, L, R, rl, ?_, pq⟩
  have h : as env L fun ds L1 => asp ds L1 R anyX := h
  unfold aCallX withD
  simpa using h
theorem ast_ret (ha : AET X c H0 e a) : AST X c H0 (.Return (some e) pos) (aRet a) := by
  intro pins s σ H D h0 I ⟨env, L, R, rl, h, er⟩
  refine CwR.pst_ret ha pins s σ H D h0 I ?_
  exact ⟨env, L, _, rl, h, fun d L1 v H1 q s1 g1 r1 => er.rt d L1 v H1 q s1 g1 r1⟩
theorem asst_cons (h1 : AST X c H0 st s1) (h2 : ASsT X c H0 rest s2) : ASsT X c H0 (st :: rest) (aSeq s1 s2) := by
  intro pins s σ H D h0 I ⟨env, L, R, rl, h, er⟩
  refine psst_cons h1 h2 pins s σ H D h0 I ?_
  refine ⟨env, L, _, rl, h, ⟨fun env' L' σ' H' q s' rl' => ⟨env', L', R, rl', q, er.fr s'⟩, er.rt, er.bk, er.ct⟩⟩
theorem asst_nil : ASsT X c H0 [] aNext := PSsT.of as_nil
theorem asst_one (h : AST X c H0 st s1) : ASsT X c H0 [st] (aSeq s1 aNext) := asst_cons h asst_nil
end
section
variable {P : Program} {w : World} {K : PySem.W.Frag} {mg : Str → Option Value} {base : Heap} {c : AC K} {x m qual : Str} {st : Stmt} {N ps : List Str} {k : Nat} {asp : ASp}
theorem _root_.JW.DefAt.okAT {a : ATS} (D : DefAt K mg x qual st [] ps) (S : FnScope N ps (defScope st)) (hl : ∀ ds L R RX, asp ds L R RX → ds.length = ps.length)
    (body : ∀ (f : Addr) (cdv : Value) (A : Around) (outer : List Env) (s : Shared) (H : Hp) (E : XK), Room k (A.deeper (envOfC qual (defScope st) s.heap.objs.size f cdv)) → ASsT (cxOf CX0 P w K mg base N qual (defScope st) f cdv A outer s H E).nox c H (defBody st) a)
    (vc : ∀ ds L R RX, asp ds L R RX → a (fnEnds R) (startA N ds) L) (hnc : ∀ y ∈ (defScope st).names, y.2 ≠ .cell := by decide) (hps : 1 ≤ ps.length := by decide) : CallD P w K mg base CX0 (k + 1) x ps [] (spA c asp) := by
  obtain ⟨f, fd, h1, F, b⟩ := D.ex
  refine ⟨f, fd, [], h1, F.kp, b, .nil, ?_⟩
  obtain ⟨oc, od, dV, kV, doc, pm, an, cdv, ct, osl, rfl, lk, hcd, _, _⟩ := F.ex
  exact fn_ofT lk hcd S hnc hps (spA_len hl) fun A outer s H vs Q E hr ⟨ds, L, R, RX, r, g, h, pq, px⟩ => ⟨_, PSsT.nox (body f cdv A outer s H E hr), body_low r g pq (vc ds L R RX h)⟩
end
end AL
namespace JW
open PySem PySem.Spec PyProof.Rows
mutual
def T.fill : T → T
  | .jet => .jet
  | .bas l => (match fillL l with
    | [] => .jet
    | t :: r => .bas (t :: r))
def fillL : List T → List T
  | [] => []
  | t :: l => t.fill :: fillL l
end
theorem fill_bas {t : T} {l : List T} : (T.bas (t :: l)).fill = .bas (t.fill :: fillL l) := rfl
theorem jts_mem : ∀ {t : T}, decide (111 ∈ t.codes) = decide (0 < t.jts) := by
  intro t
  revert t
  apply T.ind'
  · decide
  · intro l ih
    have hl : ∀ l : List T, (∀ t ∈ l, decide (111 ∈ t.codes) = decide (0 < t.jts)) → (111 ∈ codesL l ↔ 0 < jtsL l) := by
      intro l
      induction l with
      | nil => exact fun _ => ⟨fun h => absurd h List.not_mem_nil, fun h => absurd h (Nat.lt_irrefl 0)⟩
      | cons t l ih =>
        intro h
        have h1 : 111 ∈ t.codes ↔ 0 < t.jts := by simpa using h t List.mem_cons_self
        have h2 := ih fun u hu => h u (List.mem_cons_of_mem _ hu)
        show 111 ∈ t.codes ++ codesL l ↔ 0 < t.jts + jtsL l
        rw [List.mem_append, h1, h2]
        omega
    have h := hl l ih
    have e : 111 ∈ (T.bas l).codes ↔ 111 ∈ codesL l := by
      show 111 ∈ 40 :: (codesL l ++ [41]) ↔ _
      simp
    show decide (111 ∈ (T.bas l).codes) = decide (0 < jtsL l)
    exact decide_eq_decide.mpr (e.trans h)
theorem jts_of_mem {t : T} {l : List T} (h : jtsL l = 0) (ht : t ∈ l) : t.jts = 0 := by
  induction l with
  | nil => cases ht
  | cons u l ih =>
    have e : u.jts + jtsL l = 0 := h
    rcases List.mem_cons.mp ht with e1 | e1
    · rw [e1]; omega
    · exact ih (by omega) e1
theorem head40 {t : T} (h : t.jts = 0) : ∃ q, t.codes = 40 :: q := by
  cases t with
  | jet => cases h
  | bas l => exact ⟨_, rfl⟩
theorem fill_codes : ∀ t : T, t.jts = 0 → ∀ r, PySem.StrLaws.replL [40, 41] [111] (t.codes ++ r) = t.fill.codes ++ PySem.StrLaws.replL [40, 41] [111] r := by
  apply T.ind'
  · intro h
    cases h
  · intro l ih h r
    have hl : ∀ us : List T, (∀ u ∈ us, u ∈ l) → ∀ r, PySem.StrLaws.replL [40, 41] [111] (codesL us ++ r) = codesL (fillL us) ++ PySem.StrLaws.replL [40, 41] [111] r := by
      intro us
      induction us with
      | nil => exact fun _ r => rfl
      | cons u us ih2 =>
        intro hm r
        have hu := hm u List.mem_cons_self
        show PySem.StrLaws.replL [40, 41] [111] (u.codes ++ codesL us ++ r) = (u.fill.codes ++ codesL (fillL us)) ++ PySem.StrLaws.replL [40, 41] [111] r
        rw [List.append_assoc, ih u hu (jts_of_mem h hu), ih2 (fun v hv => hm v (List.mem_cons_of_mem _ hv)), List.append_assoc]
    have h41 : PySem.StrLaws.replL [40, 41] [111] (41 :: r) = 41 :: PySem.StrLaws.replL [40, 41] [111] r := PySem.StrLaws.replL_miss (by simp)
    cases l with
    | nil =>
      show PySem.StrLaws.replL [40, 41] [111] (40 :: 41 :: r) = 111 :: PySem.StrLaws.replL [40, 41] [111] r
      rw [PySem.StrLaws.replL_hit (by simp) (by simp)]
      rfl
    | cons u us =>
      obtain ⟨q, hq⟩ := head40 (jts_of_mem h (List.mem_cons_self (a := u) (l := us)))
      have e1 := hl (u :: us) (fun v hv => hv) (41 :: r)
      rw [h41] at e1
      rw [fill_bas]
      show PySem.StrLaws.replL [40, 41] [111] (40 :: ((codesL (u :: us) ++ [41]) ++ r)) = (40 :: (codesL (u.fill :: fillL us) ++ [41])) ++ PySem.StrLaws.replL [40, 41] [111] r
      rw [List.append_assoc, List.singleton_append]
      have e2 : codesL (u :: us) = 40 :: (q ++ codesL us) := by
        show u.codes ++ codesL us = _
        rw [hq]
        rfl
      rw [PySem.StrLaws.replL_miss (by rw [e2]; simp), e1, List.cons_append, List.append_assoc, List.singleton_append]
      rfl
theorem fill_size : ∀ t : T, t.fill.size = t.size := by
  apply T.ind'
  · rfl
  · intro l ih
    have hl : ∀ l : List T, (∀ t ∈ l, t.fill.size = t.size) → sizeL (fillL l) = sizeL l := by
      intro l
      induction l with
      | nil => exact fun _ => rfl
      | cons t l ih =>
        intro h
        show t.fill.size + sizeL (fillL l) = t.size + sizeL l
        rw [h t List.mem_cons_self, ih fun u hu => h u (List.mem_cons_of_mem _ hu)]
    cases l with
    | nil => rfl
    | cons u us =>
      show 1 + sizeL (fillL (u :: us)) = 1 + sizeL (u :: us)
      rw [hl _ ih]
theorem fill_opn : ∀ t : T, 0 < t.fill.jts := by
  apply T.ind'
  · decide
  · intro l ih
    cases l with
    | nil => decide
    | cons u us =>
      have h := ih u List.mem_cons_self
      show 0 < u.fill.jts + jtsL (fillL us)
      omega
theorem fill_tx {t : T} (h : t.jts = 0) : Txt.replace (tx t) ("()" : Str) ("o" : Str) = tx t.fill := by
  have e := PySem.StrLaws.replace_list (x := tx t) (y := ("()" : Str)) (z := ("o" : Str)) (by decide +kernel)
  have e1 : ("()" : Str).cps.toList = [40, 41] := by decide +kernel
  have e2 : ("o" : Str).cps.toList = [111] := by decide +kernel
  have e3 : ∀ u : T, (tx u).cps.toList = u.codes := fun u => by unfold tx; rfl
  have h2 := fill_codes t h []
  rw [List.append_nil, PySem.StrLaws.replL_nil, List.append_nil] at h2
  rw [e1, e2, e3, h2, ← e3] at e
  exact TL.ext_tl e
theorem in_o (t : T) : (!(Builtin.Str.occurrences (tx t) ("o" : Str) 0 (tx t).length 1).isEmpty) = opn t := by
  have e2 : ("o" : Str) = ⟨#[111]⟩ := by decide +kernel
  have e3 : (tx t).cps.toList = t.codes := by unfold tx; rfl
  rw [e2, StrLaws.found_one, e3]
  exact jts_mem
end JW
namespace JW
open PySem PySem.Spec PyProof.Rows L2
section
variable {X : Cx} {CX : CXT} {k : Nat} {f : Addr} {fd : FuncData} {ps : List Str} {ds : List Value} {dvs : List V} {sp : Sp} {E : XK} {C : Addr}
end
end JW
namespace AL
open PySem PySem.Spec PyProof.Rows L2 LamX JW
section
variable {X : Cx} {c : AC X.K} {H0 : Hp} {e f : Expr} {a b : ATE} {pos : Pos} {k : Nat} {ps : List Str} {asp : ASp} {qual : Str} {st : Stmt}
end
end AL
namespace JW
theorem grf_ge {p t : T} (h : t.jts ≠ 0) : p.size ≤ (T.grf p t).size ∧ p.dep ≤ (T.grf p t).dep := by
  have h1 := grf_size p t
  have h2 := jts_le t
  have h3 : p.size ≤ t.jts * p.size := Nat.le_mul_of_pos_left _ (by omega)
  have h4 := grf_dep p t
  rw [if_neg h] at h4
  omega
theorem prod_op {l : List T} (h : ∀ t ∈ l, Op t) : Op (prodT l) := ⟨prod_can fun t ht => (h t ht).1, prod_open fun t ht => (h t ht).2⟩
theorem part_le {a b c : List T} (ha : ∀ t ∈ a, Op t) (hb : ∀ t ∈ b, Op t) (hc : ∀ t ∈ c, Op t) : (prodT b).size ≤ (prodT (a ++ b ++ c)).size ∧ (prodT b).dep ≤ (prodT (a ++ b ++ c)).dep := by
  have hab : ∀ t ∈ a ++ b, Op t := fun t ht => (List.mem_append.mp ht).elim (ha t) (hb t)
  rw [prod_app (a := a ++ b) (fun t ht => (hab t ht).1) (fun t ht => (hc t ht).1), prod_app (fun t ht => (ha t ht).1) (fun t ht => (hb t ht).1), grf_assoc]
  have h1 := grf_ge (p := T.grf (prodT c) (prodT b)) (prod_op ha).2
  have h2 := grf_size_le (prodT c) (prodT b)
  have h3 := grf_dep_le (prodT c) (prodT b)
  omega
end JW
namespace JW
open PySem PySem.Spec PyProof.Rows L2
theorem bindStar0 {fd : FuncData} {a : Arg} (h1 : fd.params.posonlyargs = []) (h2 : fd.params.args = []) (h3 : fd.params.kwonlyargs = []) (h4 : fd.params.vararg = some a) (h5 : fd.params.kwarg = none) (h6 : fd.defaults = .none) (rest : List Value) :
    bindArgs fd ⟨rest, []⟩ = (newTuple rest >>= fun t => pure [(a.arg, t)]) := by
  unfold bindArgs
  simp [h1, h2, h3, h4, h5, h6, seqItems?, notAStandIn]
theorem bindStar1 {fd : FuncData} {a : Arg} {x : Str} (h1 : fd.params.posonlyargs = []) (h2 : fd.params.args = []) (h3 : fd.params.kwonlyargs = []) (h4 : fd.params.vararg = some a) (h5 : fd.params.kwarg = none) (h6 : fd.defaults = .none) (hx : a.arg = x) (rest : List Value) :
    bindArgs fd ⟨[] ++ rest, []⟩ = (newTuple rest >>= fun t => pure (([] : List Str).zip ([] : List Value) ++ [(x, t)])) := by
  subst hx
  exact bindStar0 h1 h2 h3 h4 h5 h6 rest
end JW
namespace GK
open PySem PySem.Spec PyProof.Rows L2 LamX JW AL
def GdV (n : Nat) (u : Value) : Prop := ∀ y t, u = .str y t → t ≠ 0 ∧ t < n
def GdVs (n : Nat) (us : List Value) : Prop := ∀ u ∈ us, GdV n u
theorem GdV.mono {n m : Nat} {u : Value} (h : GdV n u) (k : n ≤ m) : GdV m u := fun y t e => ⟨(h y t e).1, Nat.lt_of_lt_of_le (h y t e).2 k⟩
theorem GdVs.mono {n m : Nat} {us : List Value} (h : GdVs n us) (k : n ≤ m) : GdVs m us := fun u hu => (h u hu).mono k
theorem GdVs.nil {n : Nat} : GdVs n [] := fun _ h => absurd h List.not_mem_nil
theorem GdVs.cons {n : Nat} {u : Value} {us : List Value} (h : GdV n u) (k : GdVs n us) : GdVs n (u :: us) := fun v hv => (List.mem_cons.mp hv).elim (fun e => e ▸ h) (k v)
theorem GdVs.app {n : Nat} {us vs : List Value} (h : GdVs n us) (k : GdVs n vs) : GdVs n (us ++ vs) := fun v hv => (List.mem_append.mp hv).elim (h v) (k v)
def GdL (H : Hp) (s : Shared) : Prop := ∀ p xs o its k, H p = some (.lst xs) → s.heap.get? p = some o → o.data = .seq its k → GdVs s.toks its.toList
def noSt (X : Cx) : L2.St := List.replicate X.N.length none
def FrG (X : Cx) (c : AC X.K) (env : En) (H : Hp) (n : Nat) (m : Str → Option Value) : Prop := ∀ (i : Nat) (d : D), env[i]? = some (some d) → ∃ x v u, X.N[i]? = some x ∧ m x = some u ∧ RelV v u ∧ Rep c H d v ∧ GdV n u
structure SG (X : Cx) (c : AC X.K) (pins : List (Addr × Obj)) (env : En) (L : Store) (H : Hp) (s : Shared) : Prop where
  inv : Inv X pins (noSt X) H s
  fr : ∃ m, s.heap.Ns X.env.locals m ∧ FrG X c env H s.toks m
  len : env.length = X.N.length
  good : Good c L H
  lst : GdL H s
  tk : 1 ≤ s.toks
section
variable {X : Cx} {c : AC X.K} {pins : List (Addr × Obj)} {env : En} {L L' : Store} {H H' : Hp} {s s' : Shared}
theorem FrG.fr {n n' : Nat} {m : Str → Option Value} (h : FrG X c env H n m) (f : AL.Fr c H H') (k : n ≤ n') : FrG X c env H' n' m := fun i d e => by
  obtain ⟨x, v, u, h1, h2, h3, h4, h5⟩ := h i d e
  exact ⟨x, v, u, h1, h2, h3, h4.fr f, h5.mono k⟩
theorem SG.to (S : SG X c pins env L H s) (I : Inv X pins (noSt X) H' s') (hf : ∀ m, s.heap.Ns X.env.locals m → s'.heap.Ns X.env.locals m) (ht : s.toks ≤ s'.toks) (f : AL.Fr c H H') (g : Good c L' H') (l : GdL H' s') : SG X c pins env L' H' s' := by
  obtain ⟨m, h1, h2⟩ := S.fr
  exact ⟨I, ⟨m, hf m h1, h2.fr f ht⟩, S.len, g, l, Nat.le_trans S.tk ht⟩
theorem ns_kept {h h' : Heap} {a : Addr} (k : ∀ b o, h.get? b = some o → h'.get? b = some o) : ∀ m, h.Ns a m → h'.Ns a m := fun m hn => hn.keeps k
theorem gdl_kept {h' : Heap} {t' : Nat} (l : GdL H s) (hk : HOk X.prog X.w H s.heap) (k : ∀ b o, s.heap.get? b = some o → h'.get? b = some o) (ht : s.toks ≤ t') : GdL H { s with heap := h', toks := t' } := fun p xs o its n e1 e2 e3 => by
  obtain ⟨z, us, n', _, e4⟩ := hk p _ e1
  have e5 : h'.get? p = some o := e2
  rw [k _ _ e4] at e5
  cases e5
  exact (l p xs _ its n e1 e4 e3).mono ht
theorem SG.kept {h' : Heap} {t' : Nat} (S : SG X c pins env L H s) (k : ∀ b o, s.heap.get? b = some o → h'.get? b = some o) (ht : s.toks ≤ t') : SG X c pins env L H { s with heap := h', toks := t' } :=
  S.to (S.inv.kept k) (ns_kept k) ht (.refl c H) S.good (gdl_kept S.lst S.inv.hok k ht)
theorem SG.tok {t' : Nat} (S : SG X c pins env L H s) (ht : s.toks ≤ t') : SG X c pins env L H { s with toks := t' } := S.kept (fun _ _ e => e) ht
theorem SG.put {t' : Nat} {l : Addr} {xs ys : List V} {its its' : List Value} {n : Nat} {f : Array Value → Array Value} {ds es : List D} (S : SG X c pins env L H s) (hH : H l = some (.lst xs)) (hL : L l = some (.lst ds)) (e : s.heap.get? l = some { cls := .type "list", data := .seq its.toArray n })
    (hf : f its.toArray = its'.toArray) (hv : Vals ys its') (hz : ys.length ≤ sizeLine) (ht : s.toks ≤ t') (gd : GdVs t' its') (rs : RepL c H es ys) : SG X c pins env (sput L l (.lst es)) (upd H l (.lst ys)) { s with heap := s.heap.update l (Obj.mapSeq f), toks := t' } := by
  have hF : AL.Fr c H (upd H l (.lst ys)) := .put hH fun z => z
  obtain ⟨g, _⟩ := S.good.put (m' := .lst es) hL (.lst ys) ⟨ys, upd_same, rs.fr hF⟩
  have hne : l ≠ X.env.locals := fun z => by
    rw [z, S.inv.free] at hH
    cases hH
  have q := PySem.IsL.update e f
  refine S.to (S.inv.lset hH e hf hv hz) (fun m hm => ?_) ht hF g (fun p zs o us n' e1 e2 e3 => ?_)
  · obtain ⟨o, es', ep, h1, h2⟩ := hm
    exact ⟨o, es', ep, (Heap.get?_update_other s.heap (Obj.mapSeq f) hne).trans h1, h2⟩
  · have e2 : (s.heap.update l (Obj.mapSeq f)).get? p = some o := e2
    by_cases hp : p = l
    · subst hp
      rw [q] at e2
      cases e2
      cases e3
      rw [hf]
      simpa using gd
    · rw [upd_ne hp] at e1
      rw [Heap.get?_update_other s.heap (Obj.mapSeq f) (Ne.symm hp)] at e2
      exact (S.lst p zs o us n' e1 e2 e3).mono ht
theorem SG.list {p : Addr} {ds : List D} (S : SG X c pins env L H s) (h : L p = some (.lst ds)) : ∃ (vs : List V) (its : List Value) (n : Nat), H p = some (.lst vs) ∧ RepL c H ds vs ∧ Vals vs its ∧ vs.length ≤ sizeLine ∧ s.heap.get? p = some { cls := .type "list", data := .seq its.toArray n } ∧ GdVs s.toks its := by
  obtain ⟨vs, e1, rs⟩ := good_lst S.good h
  obtain ⟨z, its, n, r, e⟩ := S.inv.hok p _ e1
  exact ⟨vs, its, n, e1, rs, r, z, e, by simpa using S.lst p vs _ _ n e1 e rfl⟩
end
end GK
namespace GK
open PySem PySem.Spec PyProof.Rows L2 LamX JW AL
section
variable (X : Cx) (c : AC X.K) (pins : List (Addr × Obj)) (env : En) (H : Hp)
def EG (R : AQ) (u : Value) (s' : Shared) : Prop := ∃ d v H' L', SG X c pins env L' H' s' ∧ AL.Fr c H H' ∧ Rep c H' d v ∧ RelV v u ∧ GdV s'.toks u ∧ R d L'
def TGd (R : Bool → Store → Prop) (b : Bool) (s' : Shared) : Prop := ∃ H' L', SG X c pins env L' H' s' ∧ AL.Fr c H H' ∧ R b L'
end
section
variable (X : Cx) (c : AC X.K)
def XE (e : Expr) (a : ATE) : Prop := ∀ pins s env L H R, SG X c pins env L H s → a env L R → wpAny (model X.prog X.w) X.A (eval e X.env) (EG X c pins env H R) X.xe s
def XT (e : Expr) (t : ATT) : Prop := ∀ pins s env L H R, SG X c pins env L H s → t env L R → wpAny (model X.prog X.w) X.A (isTrue e X.env (eval e X.env)) (TGd X c pins env H R) X.xe s
def XW (e : Expr) (t : ATT) : Prop := ∀ whole pins s env L H R, SG X c pins env L H s → t env L R → wpAny (model X.prog X.w) X.A (isTrue e X.env whole) (TGd X c pins env H R) X.xe s
end
section
variable {X : Cx} {c : AC X.K} {pins : List (Addr × Obj)} {env : En} {L : Store} {H H1 : Hp} {s : Shared} {R : AQ} {e f g : Expr} {a b : ATE} {as : ATA} {es : List Expr} {pos : Pos} {t u' : ATT} {x : Str} {p : Pos}
theorem EG.fr {u : Value} (h : EG X c pins env H1 R u s) (k : AL.Fr c H H1) : EG X c pins env H R u s := by
  obtain ⟨d, v, H', L', S, f, r⟩ := h
  exact ⟨d, v, H', L', S, k.trans f, r⟩
theorem TGd.fr {R : Bool → Store → Prop} {b : Bool} (h : TGd X c pins env H1 R b s) (k : AL.Fr c H H1) : TGd X c pins env H R b s := by
  obtain ⟨H', L', S, f, r⟩ := h
  exact ⟨H', L', S, k.trans f, r⟩
theorem SG.eg {d : D} {v : V} {u : Value} (S : SG X c pins env L H s) (r : Rep c H d v) (q : RelV v u) (g : GdV s.toks u) (h : R d L) : EG X c pins env H R u s := ⟨d, v, H, L, S, .refl c H, r, q, g, h⟩
theorem xv (i : Nat) {x : Str} (hN : X.N[i]? = some x := by rfl) (hk : X.env.kindOf x = some .local := by rfl) (hd : (x == ("__debug__" : Str)) = false := by decide) : XE X c (.Name x pos) (aVar i) := by
  intro pins s env L H R S h
  unfold aVar at h
  split at h
  · rename_i d e1
    obtain ⟨m, hn, hf⟩ := S.fr
    obtain ⟨y, v, u, h1, h2, h3, h4, h5⟩ := hf i d e1
    rw [hN] at h1
    cases h1
    exact wpAny_Name (wpAny_loadName_local S.inv.ok.kind hk hn h2 (S.eg h4 h3 h5 h)) hd
  · exact h.elim
theorem XW.pt (h : XW X c e t) : XT X c e t := h _
end
section
variable {X : Cx} {c : AC X.K}
end
end GK
namespace GK
open PySem PySem.Spec PyProof.Rows L2 LamX JW AL
section
variable {X : Cx} {c : AC X.K} {e f g o : Expr} {a b : ATE} {as : ATA} {es : List Expr} {pos apos cpos p p2 : Pos} {x name : Str} {id : String}
end
end GK
namespace GK
open PySem PySem.Spec PyProof.Rows L2 LamX JW AL
section
variable (X : Cx) (c : AC X.K)
end
section
variable {X : Cx} {c : AC X.K} {e f g o : Expr} {a b : ATE} {as : ATA} {es : List Expr} {pos apos cpos p p2 : Pos} {x name : Str} {id : String} {k' : D → List D → Store → AQ → Prop}
end
end GK
namespace GK
open PySem PySem.Spec PyProof.Rows L2 LamX JW AL
def Zc {K : PySem.W.Frag} (c : AC K) (a : Addr) : Prop := ∃ ns, c.scr = some (a, ns)
def Hd {K : PySem.W.Frag} (c : AC K) (H : Hp) (a : Addr) : Prop := (∃ xs, H a = some (.lst xs)) ∧ ¬ Zc c a
open Classical in
noncomputable def hid {K : PySem.W.Frag} (c : AC K) (H : Hp) : Hp := fun a => if Hd c H a then none else H a
def hidS (L : Store) : Store := fun p => match L p with
  | some (.lst _) => none
  | some (.lsq _) => none
  | m => m
section
variable {K : PySem.W.Frag} {c : AC K} {H H1 : Hp} {a : Addr} {o : HO}
theorem hid_of (h : H a = some o) (n : ¬ Hd c H a) : hid c H a = some o := by
  unfold hid
  rw [if_neg n]
  exact h
theorem hid_nl (h : H a = some o) (n : ∀ xs, o ≠ .lst xs) : hid c H a = some o := hid_of h fun ⟨⟨xs, e⟩, _⟩ => by
  rw [h] at e
  cases e
  exact n xs rfl
theorem hid_none (h : H a = none) : hid c H a = none := by
  unfold hid
  split
  · rfl
  · exact h
theorem hid_hd (h : Hd c H a) : hid c H a = none := by
  unfold hid
  rw [if_pos h]
theorem hidS_of {L : Store} {p : Addr} {m : MO} (h : L p = some m) (n : ∀ l, m ≠ .lst l) (n2 : ∀ P, m ≠ .lsq P) : hidS L p = some m := by
  unfold hidS
  rw [h]
  cases m with
  | lst xs => exact absurd rfl (n xs)
  | lsq P => exact absurd rfl (n2 P)
  | _ => rfl
end
section
variable {K : PySem.W.Frag} {c : AC K} {H H1 : Hp} {L : Store}
theorem imm_nl {o : HO} (h : Imm c o) : ∀ xs, o ≠ .lst xs := fun xs e => by
  subst e
  exact h
theorem fr_hid : AL.Fr c H (hid c H) := fun a o h i => hid_nl h (imm_nl i)
end
section
variable {P : Program} {w : World} {K : PySem.W.Frag} {c : AC K} {L : Store} {H H1 : Hp} {h h' : Heap} {fs : List Addr}
theorem hd_there (hok : HOk P w H h) (hfs : ∀ b ∈ fs, H b = none) (U : Un fs [] (hid c H) H1 h h') {a : Addr} (z : Hd c H a) : ∃ o, h.get? a = some o ∧ H1 a = none ∧ h'.get? a = some o := by
  obtain ⟨⟨xs, e⟩, _⟩ := id z
  obtain ⟨_, its, n, r, e2⟩ := hok a _ e
  refine ⟨_, e2, U.free a _ e2 (hid_hd z) (by simp), U.keep a _ e2 (hid_hd z) (fun hm => ?_) (by simp)⟩
  rw [hfs a hm] at e
  cases e
structure Back (c : AC K) (H H1 H' : Hp) : Prop where
  hd : ∀ a, Hd c H a → H' a = H a
  nl : ∀ a o, H1 a = some o → (∀ xs, o ≠ .lst xs) → H' a = some o
  at_ : ∀ a o, H' a = some o → (Hd c H a ∧ H a = some o) ∨ (¬ Hd c H a ∧ H1 a = some o)
  scr : ∀ a, Zc c a → H' a = H1 a
variable {H' : Hp}
theorem Back.fr1 (B : Back c H H1 H') : AL.Fr c H1 H' := fun a o e i => B.nl a o e (imm_nl i)
theorem Back.un (B : Back c H H1 H') (U : Un fs [] (hid c H) H1 h h') : Un fs [] H H' h h' := by
  refine ⟨fun b o e n hb hx => U.keep b o e (hid_none n) hb hx, fun b o e n hb hx => U.slot b o e (hid_none n) hb hx, fun b o e n hx => ?_, U.there, fun b xs e => ?_, fun b o u e => ?_, fun b ps e => ?_⟩
  · cases e2 : H' b with
    | none => rfl
    | some v =>
      rcases B.at_ b v e2 with ⟨_, z⟩ | ⟨_, z⟩
      · rw [n] at z
        cases z
      · rw [U.free b o e (hid_none n) hx] at z
        cases z
  · exact B.nl _ _ (U.tups b xs (hid_nl e (fun _ z => nomatch z))) (fun _ z => nomatch z)
  · exact B.nl _ _ (U.frzs b o u (hid_nl e (fun _ z => nomatch z))) (fun _ z => nomatch z)
  · obtain ⟨more, e1⟩ := U.tbls b ps (hid_nl e (fun _ z => nomatch z))
    exact ⟨more, B.nl _ _ e1 (fun _ z => nomatch z)⟩
theorem Back.hok (B : Back c H H1 H') (hok : HOk P w H h) (hfs : ∀ b ∈ fs, H b = none) (U : Un fs [] (hid c H) H1 h h') (hk : HOk P w H1 h') : HOk P w H' h' := fun a o e => by
  rcases B.at_ a o e with ⟨z, e1⟩ | ⟨_, e1⟩
  · obtain ⟨⟨xs, e2⟩, _⟩ := id z
    rw [e1] at e2
    cases e2
    obtain ⟨zz, its, n, r, e3⟩ := hok a _ e1
    obtain ⟨o, e4, _, e5⟩ := hd_there hok hfs U z
    rw [e3] at e4
    cases e4
    exact ⟨zz, its, n, r, e5⟩
  · exact (hk a o e1).stay (fun _ _ _ q => q) (fun b q => B.nl _ _ q (fun _ z => nomatch z)) fun b xs q => B.nl _ _ q (fun _ z => nomatch z)
theorem Back.good (B : Back c H H1 H') (hK : ∀ a o, K.lookup a = some o → H a = none) (g0 : Good c L H) (f : AL.Fr c (hid c H) H1) (g : Good c (hidS L) H1) : Good c L H' := by
  have f1 : AL.Fr c H H' := fr_hid.trans (f.trans B.fr1)
  refine ⟨fun q hq => ?_, fun p m e => ?_, fun a ns e => ?_⟩
  · obtain ⟨ps, h1, h2, h3⟩ := g.tabs q hq
    refine ⟨ps, B.nl _ _ h1 (fun _ z => nomatch z), h2, fun pos cv hc => ?_⟩
    obtain ⟨k, e1, e2⟩ := h3 pos cv hc
    exact ⟨k, e1, B.nl _ _ e2 (fun _ z => nomatch z)⟩
  · cases m with
    | lst l =>
      obtain ⟨vs, e1, rs⟩ := good_lst g0 e
      have hz : Hd c H p := ⟨⟨vs, e1⟩, fun ⟨ns, z⟩ => by
        rcases (g0.scr p ns z).2 with ⟨_, h2⟩ | ⟨o, h2⟩ | ⟨o, its, n, h2, _⟩
        · rw [e] at h2
          cases h2
        · rw [e1] at h2
          cases h2
        · rw [hK _ _ h2] at e1
          cases e1⟩
      exact ⟨vs, (B.hd p hz).trans e1, rs.fr f1⟩
    | lsq P =>
      obtain ⟨vs, l, e1, rs, q⟩ := g0.st p _ e
      have hz : Hd c H p := ⟨⟨vs, e1⟩, fun ⟨ns, z⟩ => by
        rcases (g0.scr p ns z).2 with ⟨_, h2⟩ | ⟨o, h2⟩ | ⟨o, its, n, h2, _⟩
        · rw [e] at h2
          cases h2
        · rw [e1] at h2
          cases h2
        · rw [hK _ _ h2] at e1
          cases e1⟩
      exact ⟨vs, l, (B.hd p hz).trans e1, rs.fr f1, q⟩
    | dct l => obtain ⟨vs, e2, k, rs⟩ := g.st p _ (hidS_of e (fun _ z => nomatch z) (fun _ z => nomatch z)); exact ⟨vs, B.nl _ _ e2 (fun _ z => nomatch z), k, rs.fr B.fr1⟩
    | ins C ks ds => obtain ⟨dx, vs, e2, n, k, rs⟩ := g.st p _ (hidS_of e (fun _ z => nomatch z) (fun _ z => nomatch z)); exact ⟨dx, vs, B.nl _ _ e2 (fun _ z => nomatch z), n, k, rs.fr B.fr1⟩
    | opq Q =>
      obtain ⟨o, e2, hp, r1, r2, r3, r4⟩ := g.st p _ (hidS_of e (fun _ z => nomatch z) (fun _ z => nomatch z))
      exact ⟨o, B.nl _ _ e2 (fun xs z => r4 xs (by rw [← z]; exact hp)), hp, r1, r2, r3, r4⟩
  · refine ⟨(g0.scr a ns e).1, ?_⟩
    have hs := B.scr a ⟨ns, e⟩
    rcases (g0.scr a ns e).2 with ⟨h1, h2⟩ | ⟨o, h1⟩ | h1
    · rcases (g.scr a ns e).2 with ⟨k1, _⟩ | ⟨o, k1⟩ | k1
      · exact .inl ⟨hs.trans k1, h2⟩
      · exact .inr (.inl ⟨o, hs.trans k1⟩)
      · exact .inr (.inr k1)
    · exact .inr (.inl ⟨o, f1 a _ h1 trivial⟩)
    · exact .inr (.inr h1)
end
section
variable {X : Cx} {c : AC X.K} {pins : List (Addr × Obj)} {env : En} {L : Store} {H H1 : Hp} {s s' : Shared}
section
variable {e : Expr} {es : List Expr} {as : ATA} {x : Str} {p pos : Pos} {k : Nat} {ps : List Str} {asp : ASp}
end
end
end GK
namespace GK
open PySem PySem.Spec PyProof.Rows L2 LamX JW AL
section
variable (X : Cx) (c : AC X.K)
def SGd (pins : List (Addr × Obj)) (H : Hp) (D : AEnds) (f : Flow) (s' : Shared) : Prop :=
  match f with
  | .next => ∃ env' H' L', SG X c pins env' L' H' s' ∧ AL.Fr c H H' ∧ D.nx env' L'
  | .brk => ∃ env' H' L', SG X c pins env' L' H' s' ∧ AL.Fr c H H' ∧ D.bk env' L'
  | .cont => ∃ env' H' L', SG X c pins env' L' H' s' ∧ AL.Fr c H H' ∧ D.ct env' L'
  | .ret u => ∃ env' d v H' L', SG X c pins env' L' H' s' ∧ AL.Fr c H H' ∧ Rep c H' d v ∧ RelV v u ∧ GdV s'.toks u ∧ D.rt d L'
end
section
variable {X : Cx} {c : AC X.K} {pins : List (Addr × Obj)} {env : En} {L : Store} {H H1 : Hp} {s : Shared} {DD : AEnds}
theorem SGd.fr {f : Flow} (h : SGd X c pins H1 DD f s) (k : AL.Fr c H H1) : SGd X c pins H DD f s := by
  cases f with
  | next => obtain ⟨a, b, d, S, f, r⟩ := h; exact ⟨a, b, d, S, k.trans f, r⟩
  | brk => obtain ⟨a, b, d, S, f, r⟩ := h; exact ⟨a, b, d, S, k.trans f, r⟩
  | cont => obtain ⟨a, b, d, S, f, r⟩ := h; exact ⟨a, b, d, S, k.trans f, r⟩
  | ret u => obtain ⟨a, b, v, d, e, S, f, r⟩ := h; exact ⟨a, b, v, d, e, S, k.trans f, r⟩
end
section
variable {X : Cx} {c : AC X.K} {e f tg : Expr} {a b : ATE} {as : ATA} {pos : Pos} {t : ATT} {st : Stmt} {rest sts sts' : List Stmt} {s1 s2 : ATS}
theorem SG.turn {pins : List (Addr × Obj)} {env : En} {L : Store} {H : Hp} {s : Shared} {it : Addr} {h' : Heap} {tk : Nat} (S : SG X c pins env L H s) (hf : FpOk X pins H it) (k : ∀ b o, b ≠ it → s.heap.get? b = some o → h'.get? b = some o) (ht : s.toks ≤ tk) : SG X c pins env L H { s with heap := h', toks := tk } := by
  obtain ⟨f0, f1, f2, f3, f4, f5⟩ := hf
  refine S.to (S.inv.turned k f0 f1 f3 f4 f5) (fun m ⟨o, es, ep, h1, h2⟩ => ⟨o, es, ep, k _ o (Ne.symm f1) h1, h2⟩) ht (.refl c H) S.good (fun p xs o its n e1 e2 e3 => ?_)
  have hp : p ≠ it := fun z => by
    rw [z, f0] at e1
    cases e1
  obtain ⟨_, us, n', _, e4⟩ := S.inv.hok p _ e1
  have e5 : h'.get? p = some o := e2
  rw [k _ _ hp e4] at e5
  cases e5
  exact (S.lst p xs _ its n e1 e4 e3).mono ht
end
end GK
namespace GK
open PySem PySem.Spec PyProof.Rows L2 LamX JW AL
section
variable {X : Cx} {c : AC X.K} {e o tg : Expr} {a b : ATE} {as : ATA} {es : List Expr} {pos p apos : Pos}
end
end GK
namespace GK
open PySem PySem.Spec PyProof.Rows L2 LamX JW AL
section
variable {X : Cx} {c : AC X.K} {e : Expr} {es : List Expr} {as : ATA} {x : Str} {p pos : Pos} {k : Nat} {ps : List Str} {asp : ASp}
end
section
variable {P : Program} {w : World} {K : PySem.W.Frag} {mg : Str → Option Value} {base : Heap} {c : AC K} {x qual : Str} {st : Stmt} {N ps : List Str} {k : Nat} {asp : ASp}
end
end GK
namespace JW
open PySem PySem.Spec PyProof.Rows
mutual
def rgr (p : T) : T → T
  | .jet => p
  | .bas l => .bas (rgrL p l)
def rgrL (p : T) : List T → List T
  | [] => []
  | t :: l => rgr p t :: rgrL p l
end
mutual
/-- the greatest number of branches -/
def widT : T → Nat
  | .jet => 0
  | .bas l => max l.length (widL l)
def widL : List T → Nat
  | [] => 0
  | t :: l => max (widT t) (widL l)
end
theorem rgrL_map (p : T) : ∀ l : List T, rgrL p l = l.map (rgr p)
  | [] => rfl
  | t :: l => by rw [rgrL, rgrL_map p l, List.map_cons]
theorem rgr_codes (p : T) : ∀ (t : T) (r : List Nat), PySem.StrLaws.replL [111] p.codes (t.codes ++ r) = (rgr p t).codes ++ PySem.StrLaws.replL [111] p.codes r := by
  apply T.ind'
  · intro r
    show PySem.StrLaws.replL [111] p.codes (111 :: r) = p.codes ++ _
    rw [PySem.StrLaws.replL_hit (by simp) (by simp)]
    rfl
  · intro l ih r
    have hl : ∀ us : List T, (∀ u ∈ us, u ∈ l) → ∀ r, PySem.StrLaws.replL [111] p.codes (codesL us ++ r) = codesL (rgrL p us) ++ PySem.StrLaws.replL [111] p.codes r := by
      intro us
      induction us with
      | nil => exact fun _ r => rfl
      | cons u us ih2 =>
        intro hm r
        show PySem.StrLaws.replL [111] p.codes (u.codes ++ codesL us ++ r) = ((rgr p u).codes ++ codesL (rgrL p us)) ++ PySem.StrLaws.replL [111] p.codes r
        rw [List.append_assoc, ih u (hm u List.mem_cons_self), ih2 (fun v hv => hm v (List.mem_cons_of_mem _ hv)), List.append_assoc]
    show PySem.StrLaws.replL [111] p.codes (40 :: ((codesL l ++ [41]) ++ r)) = (40 :: (codesL (rgrL p l) ++ [41])) ++ PySem.StrLaws.replL [111] p.codes r
    rw [PySem.StrLaws.replL_miss (by simp), List.append_assoc, hl l (fun u h => h), List.singleton_append, PySem.StrLaws.replL_miss (by simp)]
    simp
theorem rgr_tx (p t : T) : Txt.replace (tx t) ("o" : Str) (tx p) = tx (rgr p t) := by
  have h := PySem.StrLaws.replace_list (x := tx t) (y := ("o" : Str)) (z := tx p) (by decide +kernel)
  have e1 : ("o" : Str).cps.toList = [111] := by decide +kernel
  have e2 : (tx t).cps.toList = t.codes := by unfold tx; rfl
  have e3 : (tx p).cps.toList = p.codes := by unfold tx; rfl
  have e4 : (tx (rgr p t)).cps.toList = (rgr p t).codes := by unfold tx; rfl
  rw [e1, e2, e3] at h
  have h2 := rgr_codes p t []
  rw [List.append_nil, PySem.StrLaws.replL_nil, List.append_nil] at h2
  rw [h2, ← e4] at h
  exact TL.ext_tl h
theorem rgr_canon {p : T} (hp : Can p) : ∀ t : T, (rgr p t).canon = T.grf p t := by
  apply T.ind'
  · exact can_canon _ hp
  · intro l ih
    show (T.bas (rgrL p l)).canon = _
    rw [canon_bas, grf_bas, rgrL_map, List.map_map]
    congr 2
    exact List.map_congr_left fun t ht => ih t ht
theorem rgr_size (p t : T) (hp : Can p) : (rgr p t).size = (T.grf p t).size := by rw [← rgr_canon hp, canon_size]
theorem rgr_dep (p t : T) (hp : Can p) : (rgr p t).dep = (T.grf p t).dep := by rw [← rgr_canon hp, canon_dep]
theorem wid_mem {t : T} : ∀ {l : List T}, t ∈ l → widT t ≤ widL l
  | [], h => absurd h List.not_mem_nil
  | u :: l, h => by
    show _ ≤ max (widT u) (widL l)
    rcases List.mem_cons.mp h with e | e
    · rw [e]; exact Nat.le_max_left _ _
    · exact Nat.le_trans (wid_mem e) (Nat.le_max_right _ _)
theorem wid_le {n : Nat} : ∀ {l : List T}, (∀ t ∈ l, widT t ≤ n) → widL l ≤ n
  | [], _ => Nat.zero_le _
  | u :: l, h => Nat.max_le.mpr ⟨h u List.mem_cons_self, wid_le fun t ht => h t (List.mem_cons_of_mem _ ht)⟩
theorem wid_size : ∀ t : T, widT t ≤ t.size := by
  apply T.ind'
  · exact Nat.zero_le _
  · intro l ih
    have h1 := length_le l
    have h2 : (T.bas l).size = 1 + sizeL l := rfl
    refine Nat.max_le.mpr ⟨by omega, wid_le fun t ht => ?_⟩
    have h3 := ih t ht
    have h4 := size_mem ht
    omega
theorem wid_rgr (p : T) : ∀ t : T, widT (rgr p t) ≤ max (widT t) (widT p) := by
  apply T.ind'
  · exact Nat.le_max_right _ _
  · intro l ih
    show max (rgrL p l).length (widL (rgrL p l)) ≤ max (max l.length (widL l)) (widT p)
    rw [rgrL_map, List.length_map]
    refine Nat.max_le.mpr ⟨Nat.le_trans (Nat.le_max_left _ _) (Nat.le_max_left _ _), wid_le fun u hu => ?_⟩
    obtain ⟨t, ht, rfl⟩ := List.mem_map.mp hu
    have h1 := ih t ht
    have h2 := wid_mem ht
    omega
theorem dep_mem {t : T} {l : List T} (h : t ∈ l) : t.dep < (T.bas l).dep := by
  have : ∀ {l : List T}, t ∈ l → t.dep ≤ depL l := by
    intro l
    induction l with
    | nil => exact fun h => absurd h List.not_mem_nil
    | cons u l ih =>
      intro h
      show _ ≤ max u.dep (depL l)
      rcases List.mem_cons.mp h with e | e
      · rw [e]; exact Nat.le_max_left _ _
      · exact Nat.le_trans (ih e) (Nat.le_max_right _ _)
  have h2 := this h
  have h3 : (T.bas l).dep = 1 + depL l := rfl
  omega
def NormOk (t : T) : Prop := t.size ≤ 4900 ∧ widT t < 64 ∧ t.dep < 800
theorem normOk_of {t : T} (h : t.size ≤ 60) : NormOk t := ⟨by omega, by have := wid_size t; omega, by have := dep_le_size t; omega⟩
theorem normOk_rgr {p t : T} (hp : Can p) (h1 : t.size ≤ 60) (h2 : p.size ≤ 60) : NormOk (rgr p t) := by
  have e := grf_size p t
  have e1 : t.jts * p.size ≤ 60 * 60 := Nat.mul_le_mul (by have := jts_le t; omega) h2
  refine ⟨by rw [rgr_size p t hp]; omega, ?_, ?_⟩
  · have a := wid_rgr p t
    have b := wid_size t
    have c := wid_size p
    omega
  · rw [rgr_dep p t hp, grf_dep]
    have a := dep_le_size t
    have b := dep_le_size p
    have d : t.lng ≤ t.size := by
      have : ∀ t : T, t.lng ≤ t.dep := by
        apply T.ind'
        · exact Nat.le_refl _
        · intro l ih
          have hl : ∀ l : List T, (∀ t ∈ l, t.lng ≤ t.dep) → lngL l ≤ depL l := by
            intro l
            induction l with
            | nil => exact fun _ => Nat.le_refl _
            | cons t l ih =>
              intro h
              have h1 := h t List.mem_cons_self
              have h2 := ih fun u hu => h u (List.mem_cons_of_mem _ hu)
              simp only [lngL, depL]
              split <;> omega
          have := hl l ih
          show 1 + lngL l ≤ 1 + depL l
          omega
      have := this t
      omega
    split <;> omega
end JW
namespace AL
open PySem PySem.Spec PyProof.Rows L2 LamX JW
theorem loop_map {α : Type} {g : ATG} {b : ATS} {N : AEnds} {G : Store → Prop} (f : α → D) (ts : List α) (I : List α → En → Store → Prop) (hG : ∀ p e l, I p e l → G l)
    (step : ∀ (pre : List α) t (rest : List α) (n : En → Store → Prop), ts = pre ++ t :: rest → (∀ e l, I (pre ++ [t]) e l → n e l) → ∀ env L, I pre env L → g (f t) env L fun env1 L1 => b { N with nx := n, ct := n, bk := N.nx } env1 L1)
    (hd : ∀ env L, I ts env L → N.nx env L) : ∀ env L, I [] env L → loopA g b N G (ts.map f) env L := by
  have : ∀ (rest pre : List α), ts = pre ++ rest → ∀ env L, I pre env L → loopA g b N G (rest.map f) env L := by
    intro rest
    induction rest with
    | nil => exact fun pre e env L h => ⟨hG _ _ _ h, hd _ _ (by rw [e, List.append_nil]; exact h)⟩
    | cons t rest ih => exact fun pre e env L h => ⟨hG _ _ _ h, step pre t rest _ e (fun env1 L1 h1 => ih (pre ++ [t]) (by rw [List.append_assoc]; exact e) env1 L1 h1) env L h⟩
  exact this ts [] rfl
end AL
namespace AL
open PySem PySem.Spec PyProof.Rows L2 LamX JW
section
variable {X : Cx} {c : AC X.K}
end
end AL
namespace JW
open PySem PySem.Spec PyProof.Rows L2 He
end JW
namespace L2
open PySem PySem.Spec PyProof.Rows
section
variable {X : Cx}
end
end L2
namespace JW
open PySem PySem.Spec PyProof.Rows L2
section
variable {X : Cx} {CX : CXT} {k : Nat} {ps : List Str} {sp : Sp} {E : XK} {C : Addr}
end
end JW
namespace AL
open PySem PySem.Spec PyProof.Rows L2 LamX JW
def aListRg (a : ATE) : ATE := fun env L Q => a env L fun d L1 => ∃ n : Nat, d = .int (n : Nat) ∧ n ≤ 10000 ∧ ∀ q, L1 q = none → Q (.ref q) (sput L1 q (.lst (rngD 0 n)))
section
variable {X : Cx} {c : AC X.K} {H0 : Hp} {e : Expr} {a : ATE} {pos p p2 : Pos} {k : Nat} {ps : List Str} {qual : Str} {st : Stmt}
theorem ae_listRg (hc : X.calm = true) (hg : Gl X "list") (hm : X.mg "list" = none) (hg2 : Gl X "range") (hm2 : X.mg "range" = none) (ha : AE X c H0 e a)
    (na : starEach [Expr.Call (.Name "range" p2) [e] [] pos] X.env = (false, eval (Expr.Call (.Name "range" p2) [e] [] pos) X.env) :: starEach [] X.env := by rfl) (nb : starEach [e] X.env = (false, eval e X.env) :: starEach [] X.env := by rfl) {pos2 : Pos} :
    AE X c H0 (.Call (.Name "list" p) [.Call (.Name "range" p2) [e] [] pos] [] pos2) (aListRg a) := by
  refine (pe_listRg hc hg hm (prg_1 hg2 hm2 ha nb) na).imp fun σ H Q ⟨env, L, R, rl, h, pq⟩ => ?_
  refine ⟨env, L, _, rl, h, fun d L1 x H1 q s1 g1 r1 => ?_⟩
  obtain ⟨n, rfl, hn, q⟩ := q
  cases rep_int.mp r1
  refine ⟨_, rfl, .of_le (by omega) (by omega) (by omega) (by omega), fun r hr => ?_⟩
  refine (pq.fr s1).alloc hr (q r (g1.fresh hr)) g1 ⟨_, upd_same, ?_⟩
  have e1 : rngD 0 n = ((List.range n).map fun i => (0 + (i : Nat) : Int)).map D.int := by
    rw [List.map_map]
    rfl
  have e2 : rgV 0 (n : Nat) = ((List.range n).map fun i => (0 + (i : Nat) : Int)).map V.int := by
    unfold rgV
    rw [List.map_map, Int.sub_zero, Int.toNat_natCast]
    rfl
  rw [e1, e2]
  exact RepL.ints.mpr rfl
end
end AL
namespace JW
open PySem PySem.Spec PyProof.Rows L2
def spErr0 (K : PySem.W.Frag) (C : Addr) : Sp := fun vs H Q _ => ∃ a, vs = [.ref a] ∧ H a = some (exo a C none) ∧ Q .non H
theorem mk_end00 {X : Cx} {pins : List (Addr × Obj)} {σ : L2.St} {H1 H2 : Hp} {hp hp2 h2 : Heap} {g1 g2 : Array GenState} {d1 d2 : Drawn} {t1 t2 : Nat} {os1 os2 : OsState} {a C : Addr} (I1 : Inv X pins σ H1 ⟨hp, g1, d1, t1, os1⟩)
    (ha : hp.objs.size ≤ a) (k : ∀ b o, hp.get? b = some o → hp2.get? b = some o) (un : Un (frs X.stack) [] (upd H1 a (exo a C none)) H2 hp2 h2) (hok : HOk X.prog X.w H2 h2) (ho : os2 = os1) (hb : AllBare g2)
    (ea : H2 a = some (exo a C none)) :
    ∃ (t0 : Addr) (G : Heap), Inv X pins σ (del H2 a) ⟨G, g2, d2, t2, os2⟩ ∧ (∀ b o, G.get? b = some o → h2.get? b = some o) ∧ G.get? a = none ∧
      h2.get? a = some ({ cls := .ref C, dict := none, data := .fields #[.ref t0, .none, .none, .none, .bool false, .none] } : Obj) ∧ (del H2 a) a = none := by
  obtain ⟨t0, hoe⟩ := exo_at hok ea
  have hn : H1 a = none := I1.hok.fresh ha
  obtain ⟨G, g1', g2'⟩ := restrict h2 fun b => decide (b ≠ a)
  have gk : ∀ b, b ≠ a → G.get? b = h2.get? b := fun b hb => g1' b (decide_eq_true hb)
  have ge : G.get? a = none := g2' a (by simp)
  have nha : ∀ {b : Addr} {o : Obj}, hp.get? b = some o → b ≠ a := fun {b o} z => Nat.ne_of_lt (Nat.lt_of_lt_of_le (Heap.lt_size z) ha)
  have up : ∀ {b : Addr}, b ≠ a → H1 b = none → upd H1 a (exo a C none) b = none := fun {b} hb n => by rw [upd_ne hb]; exact n
  have U : Un (frs X.stack) [] H1 (del H2 a) hp G := {
    keep := fun b o z n hf hx => by
      rw [gk b (nha z)]
      exact un.keep b o (k b o z) (up (nha z) n) hf hx
    slot := fun b o z n hf hx => by
      rw [gk b (nha z)]
      exact un.slot b o (k b o z) (up (nha z) n) hf hx
    free := fun b o z n hx => by
      rw [del_ne (nha z)]
      exact un.free b o (k b o z) (up (nha z) n) hx
    there := fun b o z hx => by
      rw [gk b (nha z)]
      exact un.there b o (k b o z) hx
    tups := fun b xs z => by
      rw [del_ne (ne_of_none z hn)]
      exact un.tups b xs (by rw [upd_ne (ne_of_none z hn)]; exact z)
    frzs := fun b o v z => by
      rw [del_ne (ne_of_none z hn)]
      exact un.frzs b o v (by rw [upd_ne (ne_of_none z hn)]; exact z)
    tbls := fun b ps z => by
      rw [del_ne (ne_of_none z hn)]
      exact un.tbls b ps (by rw [upd_ne (ne_of_none z hn)]; exact z) }
  have hok3 : HOk X.prog X.w (del H2 a) G := fun b o z => by
    have hba : b ≠ a := fun e => by
      rw [e, del_same] at z
      cases z
    rw [del_ne hba] at z
    have noa : ∀ {c : Addr}, H2 c = some (.own b) → c ≠ a := fun {c} hc => at_ne ea hc exo_own
    exact (hok b o z).stay (fun c v hc y => by
        have hca : c ≠ a := by
          rcases hc with hc | hc
          · rw [hc]
            exact hba
          · exact noa hc
        rw [gk c hca]
        exact y)
      (fun c hc => by rw [del_ne (noa hc)]; exact hc) (fun c xs hc => by rw [del_ne (at_ne ea hc exo_tup)]; exact hc)
  have J : Inv X pins σ (del H2 a) ⟨G, g2, d2, t2, os2⟩ := I1.call' (ch := []) ho U hok3 hb (fun b z => absurd z (by simp))
  refine ⟨t0, G, J, fun b o z => ?_, ge, hoe, del_same⟩
  by_cases hba : b = a
  · rw [hba, ge] at z
    cases z
  · exact (gk b hba).symm.trans z
def tRaise0 (C : Addr) : L2.St → Hp → XK → Prop := fun _ H Q => Q (.ref C) none H
section
variable {X : Cx} {p pos : Pos} {x : Str} {C : Addr} {k : Nat} {ps : List Str}
theorem pmk_err0 (D : ErrD X.prog X.w X.K X.mg X.base k x C ps (spErr0 X.K C)) (hr : Room (k + 1) X.A) (hg : Gl X x) (hdb : (x == ("__debug__" : Str)) = false := by decide) : PMk X (.Call (.Name x p) [] [] pos) (tRaise0 C) := by
  obtain ⟨fI, fd, iC, tI, hb, F1⟩ := D.ex
  have T := D.c.o
  intro pins s σ H Q I h
  obtain ⟨nm, q, N, bs, bm, sn, sub, ab, col, dd, k0, k1, k2, k3, k5, hC, hbm⟩ := T.cls
  refine wpAny_Call_Name_kw (ld_glob I hg D.g ?_ hdb)
  refine PySem.W.callWith_K0 I.kIn T.kC ?_
  show wpAny _ _ (call (.ref C) []) _ _ _
  obtain ⟨hp, g, dr, tk, os⟩ := s
  have hsz : hp.objs.size ≤ hp.objs.size + 1 := Nat.le_succ _
  have hn : H (hp.objs.size + 1) = none := I.hok.fresh hsz
  have kk : ∀ b o, hp.get? b = some o → ((hp.push (PySem.W.kdv_tup [])).push (PySem.HandSPX.excO C hp.objs.size)).get? b = some o := fun b o e => Heap.get?_push_of_some _ (Heap.get?_push_of_some _ e)
  have hget : ((hp.push (PySem.W.kdv_tup [])).push (PySem.HandSPX.excO C hp.objs.size)).get? (hp.objs.size + 1) = some (PySem.HandSPX.excO C hp.objs.size) := by heap_get
  have I2 : Inv X pins σ (upd H (hp.objs.size + 1) (exo (hp.objs.size + 1) C none)) ⟨(hp.push (PySem.W.kdv_tup [])).push (PySem.HandSPX.excO C hp.objs.size), g, dr, tk, os⟩ :=
    I.laid (t' := tk) (a := hp.objs.size + 1) (o := exo (hp.objs.size + 1) C none) (h' := (hp.push (PySem.W.kdv_tup [])).push (PySem.HandSPX.excO C hp.objs.size)) kk hsz (exo_ok hget)
  have r2 : Vals [V.ref (hp.objs.size + 1)] [Value.ref (hp.objs.size + 1)] := .cons rfl .nil
  have hq : spErr0 X.K C [V.ref (hp.objs.size + 1)] (upd H (hp.objs.size + 1) (exo (hp.objs.size + 1) C none)) (fun v H2 => v = .non ∧ H2 = upd H (hp.objs.size + 1) (exo (hp.objs.size + 1) C none)) (fun _ _ _ => False) := ⟨_, rfl, upd_same, rfl, rfl⟩
  have hl : [Value.ref (hp.objs.size + 1)].length = ps.length := F1.len _ _ _ _ hq
  refine wpAny_call (PySem.HandSPX.call_own F.excBase_ValueError (fun Y => PySem.HandSPX.refsVE_contains Y bm hbm) (I.kIn _ _ hC) (PySem.W.looks_findIn I.kIn iC) (fun self => PySem.W.bind_fn I.kIn self tI) (by rw [sizeLine_eq]; decide)
    (codeAny_mono (F1.run _ X.stack _ _ ⟨[Value.ref (hp.objs.size + 1)], []⟩ [Value.ref (hp.objs.size + 1)] _ _ (fun _ _ _ => False) (hr.make C [] []) (I2.env0.make C [] []) (hb _ [Value.ref (hp.objs.size + 1)] I2.kIn hl) r2 hq) fun r s' hq' => ?_))
  cases r with
  | error er => exact pass0 (X := X) pins σ _ _ er s' I2 hq'
  | ok fl =>
    cases fl with
    | ret u =>
      obtain ⟨v, H2, os2, bare2, un2, hok2, rv, ev, eH⟩ := hq'
      subst ev
      subst eH
      obtain ⟨h2, g2, d2, t2, os'⟩ := s'
      refine ⟨rv, ?_⟩
      obtain ⟨t0, G, J, kG, ge, hoe, na⟩ := mk_end00 (d2 := d2) (t2 := t2) I hsz kk un2 hok2 os2 bare2 upd_same
      have eD : del (upd H (hp.objs.size + 1) (exo (hp.objs.size + 1) C none)) (hp.objs.size + 1) = H := by
        funext b
        by_cases e : b = hp.objs.size + 1
        · rw [e, del_same, hn]
        · rw [del_ne e, upd_ne e]
      rw [eD] at J
      exact ⟨hp.objs.size + 1, _, _, ⟨G, g2, d2, t2, os'⟩, _, .ref C, none, rfl, J, kG, ge, hoe, ⟨rfl, rfl⟩, rfl, rfl, hn, rfl, bare2, raises_own T.exC T.tyC, h⟩
    | next => exact False.elim hq'
    | brk => exact False.elim hq'
    | cont => exact False.elim hq'
end
end JW
namespace AL
open PySem PySem.Spec PyProof.Rows L2 JW
theorem comp_accP {g : ATG} {a : ATE} {G : Store → Prop} {p : Addr} {env : En} {Q : AQ} {L0 : Store} (P : D → Prop) (hG : ∀ l, G (sput L0 p (.lst l))) : ∀ (ds acc : List D), acc.length + ds.length ≤ sizeLine →
    (∀ d ∈ ds, ∀ (l : List D) (k : AQ), (∀ x, P x → k x (sput L0 p (.lst l))) → g d env (sput L0 p (.lst l)) fun env1 L1 => L1 = sput L0 p (.lst l) ∧ a env1 L1 k) → (∀ x ∈ acc, P x) →
    (∀ xs : List D, xs.length = acc.length + ds.length → (∀ x ∈ xs, P x) → Q (.ref p) (sput L0 p (.lst xs))) → compA g aYes a G p env Q ds acc (sput L0 p (.lst acc))
  | [], acc, hz, hs, ha, q => ⟨hG acc, sput_same, q acc rfl ha⟩
  | d :: ds, acc, hz, hs, ha, q => by
    rw [List.length_cons] at hz
    refine ⟨hG acc, sput_same, hs d List.mem_cons_self acc _ fun x hx => ?_⟩
    refine ⟨by omega, sput_same, ?_⟩
    rw [sput_sput]
    refine comp_accP P hG ds (acc ++ [x]) (by rw [List.length_append, List.length_singleton]; omega) (fun d' h' => hs d' (List.mem_cons_of_mem _ h')) (fun y hy => ?_) fun xs hl hx => q xs ?_ hx
    · rcases List.mem_append.mp hy with e | e
      · exact ha y e
      · rw [List.mem_singleton.mp e]; exact hx
    · rw [hl]
      simp only [List.length_append, List.length_cons, List.length_nil]
      omega
theorem comp_mapA {α : Type} {g : ATG} {a : ATE} {G : Store → Prop} {p : Addr} {env : En} {Q : AQ} {L0 : Store} (f h : α → D) (hG : ∀ l, G (sput L0 p (.lst l))) : ∀ (ws : List α) (acc : List D), acc.length + ws.length ≤ sizeLine →
    (∀ w ∈ ws, ∀ (l : List D) (k : AQ), k (h w) (sput L0 p (.lst l)) → g (f w) env (sput L0 p (.lst l)) fun env1 L1 => L1 = sput L0 p (.lst l) ∧ a env1 L1 k) →
    Q (.ref p) (sput L0 p (.lst (acc ++ ws.map h))) → compA g aYes a G p env Q (ws.map f) acc (sput L0 p (.lst acc))
  | [], acc, hz, hs, q => ⟨hG acc, sput_same, by rw [List.map_nil, List.append_nil] at q; exact q⟩
  | w :: ws, acc, hz, hs, q => by
    rw [List.length_cons] at hz
    refine ⟨hG acc, sput_same, hs w List.mem_cons_self acc _ ?_⟩
    refine ⟨by omega, sput_same, ?_⟩
    rw [sput_sput]
    refine comp_mapA f h hG ws (acc ++ [h w]) (by rw [List.length_append, List.length_singleton]; omega) (fun d' h' => hs d' (List.mem_cons_of_mem _ h')) ?_
    rw [List.append_assoc]
    exact q
theorem perm_mapD {α β : Type} {f : α → β} : ∀ {ys zs : List β}, ys.Perm zs → ∀ {l : List α}, zs = l.map f → ∃ us : List α, us.Perm l ∧ ys = us.map f := by
  intro ys zs p
  induction p with
  | nil => exact fun {l} e => ⟨l, .refl _, e⟩
  | cons x p ih =>
    intro l e
    match l, e with
    | a :: l, e =>
      obtain ⟨e1, e2⟩ := List.cons.inj e
      obtain ⟨us, pu, e3⟩ := ih e2
      exact ⟨a :: us, pu.cons a, by rw [e1, e3]; rfl⟩
  | swap x y p =>
    intro l e
    match l, e with
    | a :: b :: l, e =>
      obtain ⟨e1, e2⟩ := List.cons.inj e
      obtain ⟨e3, e4⟩ := List.cons.inj e2
      exact ⟨b :: a :: l, .swap a b l, by rw [e1, e3, e4]; rfl⟩
  | trans p q ih1 ih2 =>
    intro l e
    obtain ⟨us, pu, e1⟩ := ih2 e
    obtain ⟨vs, pv, e2⟩ := ih1 e1
    exact ⟨vs, pv.trans pu, e2⟩
end AL
namespace AL
open PySem PySem.Spec PyProof.Rows L2 LamX JW
section
open PySem.SeqAt AutoSeq1 MeetsSeq MeetsSeq2 MeetsSeq3
variable {prog : Program} {w : World} {A : Around} {R : Result → Shared → Prop}
end
section
variable {X : Cx} {c : AC X.K} {k : Nat} {ps : List Str} {H : Hp} {σ : L2.St} {pins : List (Addr × Obj)}
end
end AL
namespace AL
open PySem PySem.Spec PyProof.Rows L2 LamX JW
section
variable {X : Cx} {c : AC X.K} {H : Hp} {σ : L2.St} {pins : List (Addr × Obj)}
end
end AL
namespace AL
open PySem PySem.Spec PyProof.Rows L2 LamX JW
def aRaise0 (x : Str) (RX : AX) : ATS := fun _ _ L => ∃ L0, SubS L0 L ∧ RX x [] L0
section
variable {X : Cx} {c : AC X.K} {H0 : Hp} {e : Expr} {a : ATE} {pos p p2 pos2 : Pos} {k : Nat} {ps : List Str} {x f : Str} {RX : AX} {E : XK}
theorem as_raise0 (hc : X.calm = true) (tk : Takes X (fun cls d _ H => E cls d H)) (hE : Px c H0 RX E) (D : ErrD X.prog X.w X.K X.mg X.base k x (He.ga X.K x) ps (spErr0 X.K (He.ga X.K x))) (hr : Room (k + 1) X.A) (hg : Gl X x) (hdb : (x == ("__debug__" : Str)) = false := by decide) :
    AS X c H0 (.Raise (some (.Call (.Name x p) [] [] pos)) none pos2) (aRaise0 x RX) := by
  refine (ps_raise hc tk (pmk_err0 D hr hg hdb)).imp fun D σ H ⟨env, L, R, rl, h, er⟩ => ?_
  obtain ⟨L0, sb, h⟩ := h
  exact hE x [] L0 H none h rl.fr (rl.good.sub sb) (.inl ⟨rfl, rfl⟩)
end
section
variable {P : Program} {w : World} {K : PySem.W.Frag} {mg : Str → Option Value} {base : Heap} {c : AC K} {m qual : Str} {st : Stmt} {N ps : List Str} {k : Nat} {asp : ASp} {C : Addr}
theorem _root_.JW.MethAt.okAX {a : AX → ATS} (D : MethAt K C m qual st ps) (S : FnScope N ps (defScope st)) (hl : ∀ ds L R RX, asp ds L R RX → ds.length = ps.length)
    (body : ∀ (f : Addr) (cdv : Value) (A : Around) (outer : List Env) (s : Shared) (H : Hp) (E : XK) (RX : AX), Px c H RX E → Room k (A.deeper (envOfC qual (defScope st) s.heap.objs.size f cdv)) → ASs (cxOf (L2.CX P w) P w K mg base N qual (defScope st) f cdv A outer s H E) c H (defBody st) (a RX))
    (vc : ∀ ds L R RX, asp ds L R RX → a RX (fnEnds R) (startA N ds) L) : MethD P w K mg base (L2.CX P w) (k + 1) C m ps [] (spA c asp) :=
  D.okX S (spA_len hl) fun f cdv A outer s H vs Q E hr ⟨ds, L, R, RX, r, g, h, pq, px⟩ => ⟨_, body f cdv A outer s H E RX px hr, body_low r g pq (vc ds L R RX h)⟩
end
end AL
namespace AL
open PySem PySem.Spec PyProof.Rows L2 LamX JW
structure PassA (X : Cx) (c : AC X.K) (H0 : Hp) (RXe : En → AX) : Prop where
  ex : ∃ E : L2.St → XK, (∀ σ, PassesAt (L2.CX X.prog X.w) X σ (E σ)) ∧ ∀ σ H env L, Rl c H0 σ H env L → Px c H (RXe env) (E σ)
section
variable {X : Cx} {c : AC X.K} {H0 : Hp}
theorem passA_of {RX : AX} {E : XK} (h : Passes (L2.CX X.prog X.w) X E) (k : Px c H0 RX E) : PassA X c H0 fun _ => RX :=
  ⟨fun _ => E, fun σ => passN h σ, fun _ _ _ _ rl => k.fr rl.fr⟩
theorem passA_no : PassA X c H0 fun _ => noX := passA_of (passL (X := X)) px_no
end
def aCallP (asp : ASp) (RXe : En → AX) (as : ATA) : ATE := fun env L Q => as env L fun ds L1 => asp ds L1 Q (RXe env)
def recv (K : PySem.W.Frag) (C : Addr) (m : Str) : D → Store → Prop
  | .tree _, _ => C = cF K ∧ m ∉ [("written" : Str), "branches", "numbers"]
  | .obj C' ks _, _ => C' = C ∧ m ∉ ks
  | .ref p, L => ∃ ks ds, L p = some (.ins C ks ds) ∧ m ∉ ks
  | _, _ => False
theorem zip_lookup {ks : List Str} {m : Str} (h : m ∉ ks) : ∀ vs : List V, (ks.zip vs).lookup m = none := by
  induction ks with
  | nil => intro vs; rfl
  | cons k ks ih =>
    intro vs
    cases vs with
    | nil => rfl
    | cons v vs =>
      have h1 : (m == k) = false := beq_eq_false_iff_ne.mpr fun e => h (e ▸ List.mem_cons_self)
      show (match m == k with | true => some v | false => (ks.zip vs).lookup m) = none
      rw [h1]
      exact ih (fun z => h (List.mem_cons_of_mem _ z)) vs
theorem flds_lookup {m : Str} (h : m ∉ [("written" : Str), "branches", "numbers"]) (t : T) (b n : Addr) : (flds t b n).lookup m = none := by
  have e : flds t b n = [("written" : Str), "branches", "numbers"].zip ((flds t b n).map (·.2)) := rfl
  rw [e]
  exact zip_lookup h _
theorem recv_low {K : PySem.W.Frag} {c : AC K} {C : Addr} {m : Str} {d : D} {v : V} {L : Store} {H : Hp} (r : Rep c H d v) (g : Good c L H) (h : recv K C m d L) : ∃ p dx fs, v = .ref p ∧ H p = some (.ins C dx fs) ∧ fs.lookup m = none := by
  unfold recv at h
  split at h
  · obtain ⟨rfl, hm⟩ := h
    obtain ⟨p, dx, b, n, vs, rfl, h1, _⟩ := ftn_iff.mp (rep_tree.mp r)
    exact ⟨p, dx, _, rfl, h1, flds_lookup hm _ _ _⟩
  · obtain ⟨rfl, hm⟩ := h
    obtain ⟨p, dx, vs, rfl, h1, _⟩ := rep_obj.mp r
    exact ⟨p, dx, _, rfl, h1, zip_lookup hm _⟩
  · obtain ⟨ks, ds, h1, hm⟩ := h
    cases rep_ref.mp r
    obtain ⟨dx, vs, e, _⟩ := g.st _ _ h1
    exact ⟨_, dx, _, rfl, e, zip_lookup hm _⟩
  · exact h.elim
section
variable {X : Cx} {CX : CXT} {k : Nat} {f C : Addr} {fd : FuncData} {ps : List Str} {sp : Sp} {dvs : List V} {ds : List Value} {E : L2.St → XK} {x m : Str} {p pos apos : Pos} {e o a b : Expr} {es : List Expr} {ta tb : TE} {t : TA}
end
section
variable {X : Cx} {c : AC X.K} {H0 : Hp} {e o f : Expr} {es : List Expr} {a b : ATE} {as : ATA} {x m : Str} {p p1 p2 pos apos : Pos} {k : Nat} {ps : List Str} {asp : ASp} {RXe : En → AX} {dvs : List V} {dd : List D} {C : Addr}
theorem ae_callP (C : CallD X.prog X.w X.K X.mg X.base (L2.CX X.prog X.w) k x ps [] (spA c asp)) (hr : Room k X.A) (hg : Gl X x) (hp : PassA X c H0 RXe) (ha : AA X c H0 (e :: es) as) (hdb : (x == ("__debug__" : Str)) = false := by decide)
    (he : starEach (e :: es) X.env = (false, eval e X.env) :: starEach es X.env := by rfl) (hpl : (backTo pos (starEach es X.env)).any (·.1) = false := by rfl) : AE X c H0 (.Call (.Name x p) (e :: es) [] pos) (aCallP asp RXe as) := by
  obtain ⟨E, h1, h2⟩ := hp.ex
  refine (pe_callDS C hr hg h1 ha hdb he hpl).imp fun σ H Q ⟨env, L, R, rl, h, pq⟩ => ?_
  refine ⟨env, L, _, rl, h, fun ds L1 vs H1 q s1 g1 r1 => ?_⟩
  show spA c asp (vs ++ []) H1 Q (E σ)
  rw [List.append_nil]
  exact ⟨ds, L1, R, RXe env, r1, g1, q, pq.fr s1, (h2 σ H env L rl).fr s1⟩
def aCmP (C : Addr) (asp : ASp) (RXe : En → AX) (as : ATA) : ATE := fun env L Q => as env L fun ds L1 => asp (.ref C :: ds) L1 Q (RXe env)
theorem ae_cmP {pl : Sem Bool} (hg : Gl X x) (hm : X.mg x = some (.ref C)) (M : CmD X.prog X.w X.K X.mg X.base (L2.CX X.prog X.w) k C m ps (spA c asp)) (hr : Room k X.A) (hp : PassA X c H0 RXe) (ha : AA X c H0 (e :: es) as) (hdb : (x == ("__debug__" : Str)) = false := by decide)
    (hst : starEach (e :: es) X.env = (false, eval e X.env) :: starEach es X.env := by rfl) (hpl : (backTo pos (starEach es X.env)).any (·.1) = false := by rfl)
    (ht : eval (.Call (.Attribute (.Name x p1) m apos) (e :: es) [] pos) X.env = (do
      let ov ← eval (.Name x p1) X.env
      standAt apos.atName
      let (f, first) ← holding [ov] (getMethod ov m pl)
      callWith pos f first (backTo pos (starEach (e :: es) X.env)) (backToKw pos (keywordEach [] X.env))) := by rfl) : AE X c H0 (.Call (.Attribute (.Name x p1) m apos) (e :: es) [] pos) (aCmP C asp RXe as) := by
  obtain ⟨E, h1, h2⟩ := hp.ex
  refine (pe_cmethS hg hm M hr h1 ha hdb hst hpl ht).imp fun σ H Q ⟨env, L, R, rl, h, pq⟩ => ?_
  exact ⟨env, L, _, rl, h, fun ds L1 vs H1 q s1 g1 r1 => ⟨_, L1, R, RXe env, .cons (rep_ref.mpr rfl) r1, g1, q, pq.fr s1, (h2 σ H env L rl).fr s1⟩⟩
end
section
variable {X : Cx} {CX : CXT} {k : Nat} {f C : Addr} {fd : FuncData} {ps : List Str} {ds : List Value} {dvs : List V} {sp : Sp} {E : L2.St → XK}
end
section
variable {X : Cx} {c : AC X.K} {H0 : Hp} {e f : Expr} {a b : ATE} {pos : Pos} {k : Nat} {ps : List Str} {asp : ASp} {qual : Str} {st : Stmt} {RXe : En → AX}
end
theorem ErrR.fr {K : PySem.W.Frag} {c : AC K} {H H' : Hp} {fs : List (Str × D)} {dd : Option Addr} (h : ErrR c H fs dd) (s : Fr c H H') : ErrR c H' fs dd := by
  rcases h with h | ⟨f, d, a, v, e1, e2, e3, r⟩
  · exact .inl h
  · exact .inr ⟨f, d, a, v, e1, e2, s _ _ e3 trivial, r.fr s⟩
def untry (i : Nat) (D : AEnds) : AEnds := { nx := fun e l => D.nx (e.set i none) l, rt := D.rt, bk := fun e l => D.bk (e.set i none) l, ct := fun e l => D.ct (e.set i none) l }
def aTryAs (K : PySem.W.Frag) (C : Value) (i : Nat) (tb : (En → AX) → ATS) (ts : Addr → Str → List (Str × D) → ATS) : ATS := fun D env L =>
  tb (fun env' x fs L' => PySem.W.exmOne K (.ref (He.ga K x)) C = some true ∧ ∀ a, ts a x fs (untry i D) (env'.set i (some (.ref a))) L') D env L
section
variable {X : Cx} {c : AC X.K} {H0 : Hp} {x n : Str} {C : Value} {i : Nat} {body suite : List Stmt} {b₀ : Stmt} {np pos pos' : Pos} {tb : (En → AX) → ATS} {ts : Addr → Str → List (Str × D) → ATS}
theorem EndR.here {H : Hp} {R : AEnds} {D : Ends} {σ : L2.St} {env : En} {L : Store} (er : EndR c H0 H R D) (rl : Rl c H0 σ H env L) : EndR c H H R D :=
  ⟨fun e l s h q f r => er.nx e l s h q f ⟨r.env, r.good, rl.fr.trans r.fr⟩, er.rt, fun e l s h q f r => er.bk e l s h q f ⟨r.env, r.good, rl.fr.trans r.fr⟩, fun e l s h q f r => er.ct e l s h q f ⟨r.env, r.good, rl.fr.trans r.fr⟩⟩
theorem Rl.here {σ : L2.St} {H : Hp} {env : En} {L : Store} (rl : Rl c H0 σ H env L) : Rl c H σ H env L := ⟨rl.env, rl.good, .refl c H⟩
theorem as_tryAs {K : PySem.W.Frag} (eK : X.K = K) (hs : X.stack = X.env :: X.outer) (hf : X.env.frame = some X.env.locals) (hN : X.N.Nodup) (hi : X.N[i]? = some n) (hln : X.env.kindOf n = some .local) (hc : Names X x C)
    (hb : ∀ (pn : List (Addr × Obj)) (xe : Value → Shared → Prop) (RXe : En → AX) (H1 : Hp), PassA (X.tr pn xe) c H1 RXe → PassesOwn (model X.prog X.w) X.A X.env xe → ASs (X.tr pn xe) c H1 body (tb RXe))
    (hsu : ∀ (a : Addr) (oe : Obj) (cls : Value) (d : Option Addr) (pn : List (Addr × Obj)) (y : Str) (fs : List (Str × D)) (H1 : Hp), Zc cls d oe → (∃ vs, oe.data = .fields vs) → cls = .ref (He.ga X.K y) → ErrR c H1 fs d → ASs (X.suite a ((a, oe) :: pn)) c H1 (b₀ :: suite) (ts a y fs)) :
    AS X c H0 (.Try body [.ExceptHandler (some (.Name x np)) (some n) (b₀ :: suite) pos'] [] [] pos) (aTryAs K C i tb ts) := by
  subst eK
  refine (ps_try_as (Wout := fun _ _ _ _ => False)
    (tb := fun W D σ H => ∃ RXe H1, (∀ σ' H' env' L', Rl c H1 σ' H' env' L' → Px c H' (RXe env') (WE W σ')) ∧ lowS c H1 (tb RXe) D σ H)
    (ts := fun a cls d D σ H => ∃ y fs H1, cls = .ref (He.ga X.K y) ∧ ErrR c H1 fs d ∧ lowS c H1 (ts a y fs) D σ H)
    hs hf hN hi hln hc LamX.takes0 (fun W pn xe tk po => ⟨fun pins s σ H D I ⟨RXe, H1, hp, q⟩ => (hb pn xe RXe H1 ⟨WE W, fun σ => passAt tk σ, hp⟩ po).run pins s σ H D I q⟩)
    (fun a oe cls d pn hz hfl => ⟨fun pins s σ H D I ⟨y, fs, H1, e, er, q⟩ => (hsu a oe cls d pn y fs H1 hz hfl e er).run pins s σ H D I q⟩)).imp fun D σ H ⟨env, L, R, rl, h, er⟩ => ?_
  refine ⟨_, H, fun σ' H' env' L' rl' y fs L2 H2 dd ⟨e1, e2⟩ f2 g2 er2 => ?_, env, L, R, rl.here, h, er.here rl⟩
  refine ⟨true, e1, fun _ a na => ⟨y, fs, H2, rfl, er2, _, _, _, ⟨(rl'.env.fr f2).set i (rep_ref.mpr rfl), g2, .refl c H2⟩, e2 a, ?_⟩, fun z => Bool.noConfusion z⟩
  have f3 := rl'.fr.trans f2
  have go : ∀ {σ3 : List (Option V)} {H3 : Hp} {env3 : En} {L3 : Store}, Rl c H2 σ3 H3 env3 L3 → Rl c H0 (σ3.set i none) H3 (env3.set i none) L3 := fun {σ3 H3 env3 L3} r => ⟨r.env.unset i, r.good, rl.fr.trans (f3.trans r.fr)⟩
  exact ⟨fun e l s h q f r => er.nx _ l _ h q (f3.trans f) (go r), fun d l v h q f => er.rt d l v h q (f3.trans f), fun e l s h q f r => er.bk _ l _ h q (f3.trans f) (go r), fun e l s h q f r => er.ct _ l _ h q (f3.trans f) (go r)⟩
end
def aIsX (K : PySem.W.Frag) (a : Addr) (y : Str) (C : Addr) (i : Nat) : ATE := fun env L Q => env[i]? = some (some (.ref a)) ∧ ∃ b, PySem.W.kitOne K (.ref (He.ga K y)) (.ref C) = some b ∧ ExcC K (He.ga K y) ∧ Q (.bl b) L
section
variable {X : Cx} {c : AC X.K} {H1 : Hp} {a : Addr} {oe : Obj} {cls : Value} {d : Option Addr} {pn : List (Addr × Obj)} {y : Str} {fs : List (Str × D)} {i : Nat} {n z f : Str} {p p1 p2 pos : Pos} {C : Addr}
theorem ErrR.xd {K : PySem.W.Frag} {c : AC K} {H : Hp} {fs : List (Str × D)} {d : Option Addr} (h : ErrR c H fs d) : ∀ dd, d = some dd → ∃ fs, H dd = some (.xd fs) := fun dd e => by
  rcases h with ⟨_, e2⟩ | ⟨f, d, a, v, e1, e2, e3, r⟩
  · rw [e2] at e
    cases e
  · rw [e2] at e
    cases e
    exact ⟨_, e3⟩
theorem ae_isX {K : PySem.W.Frag} (eK : X.K = K) (hz : Zc cls d oe) (hf : ∃ vs, oe.data = .fields vs) (ec : cls = .ref (He.ga X.K y)) (er : ErrR c H1 fs d) (hg : Gl X "isinstance") (hm : X.mg "isinstance" = none) (hN : X.N[i]? = some n) (hv : Vis X.env.scope n)
    (hz2 : Gl X z) (hC : X.mg z = some (.ref C)) (hd : (n == ("__debug__" : Str)) = false := by decide) (hcd : (n == ("__classdict__" : Str)) = false := by decide) (hd2 : (z == ("__debug__" : Str)) = false := by decide)
    (he : starEach [.Name n p1, .Name z p2] X.env = (false, eval (.Name n p1) X.env) :: starEach [.Name z p2] X.env := by rfl) (he2 : starEach [.Name z p2] X.env = (false, eval (.Name z p2) X.env) :: starEach [] X.env := by rfl) (hpl : (backTo pos (starEach [.Name z p2] X.env)).any (·.1) = false := by rfl) :
    AE (X.suite a ((a, oe) :: pn)) c H1 (.Call (.Name "isinstance" p) [.Name n p1, .Name z p2] [] pos) (aIsX K a y C i) := by
  subst eK
  have hE : PE (X.suite a ((a, oe) :: pn)) (.Name n p1) (tVar i) := pe_var (X := X.suite a ((a, oe) :: pn)) hN hv hd hcd
  refine (pe_callB (X := X.suite a ((a, oe) :: pn)) (call_isX hz hf) hg hm (by decide +kernel) (pa_cons hE (pa_cons (pe_glob (v := .ref C) hz2 hC rfl hd2) pa_nil he2) he) (by decide) (by decide) he hpl).imp fun σ H Q ⟨env, L, R, rl, h, pq⟩ => ?_
  obtain ⟨e1, b, e2, e3, q⟩ := h
  obtain ⟨v, e4, r⟩ := rl.env.get i _ e1
  cases rep_ref.mp r
  exact ⟨_, e4, _, _, _, b, ec, e3, rfl, fun u h => h, e2, (er.fr rl.fr).xd, pq.here q rl.good (rep_bl.mpr rfl)⟩
end
end AL
namespace JW
open PySem PySem.Spec PyProof.Rows L2
def Calm (A : Around) : Prop := A.guards = some []
theorem Calm.in1 {A : Around} (h : Calm A) : Calm A.in1 := h
theorem Calm.deeper {A : Around} {env : Env} (h : Calm A) : Calm (A.deeper env) := by
  obtain ⟨hd, d, fr, gs, u⟩ := A
  have h : gs = some [] := h
  subst h
  simp [Calm, Around.deeper, Around.over, guardsOf, pushGuards, Code.guards, Code.isGuard]
structure FnOkG (P : Program) (w : World) (K : PySem.W.Frag) (mg : Str → Option Value) (base : Heap) (cx : CXT) (k : Nat) (f : Addr) (fd : FuncData) (ps : List Str) (sp : Sp) : Prop where
  len : ∀ vs H Q E, sp vs H Q E → vs.length = ps.length
  go : ∀ (A : Around) (outs : List Env) (s : Shared) (H : Hp) (args : Args) (us : List Value) (vs : List V) (Q : VK) (E : XK), Calm A → Room k A → Env0 P w K mg base A outs s H → BindsTo s fd args (ps.zip us) → Vals vs us → sp vs H Q E →
    codeAny (model P w) A (.call (.ref f) args) (CR cx outs P w H s Q E) s
structure CallDG (P : Program) (w : World) (K : PySem.W.Frag) (mg : Str → Option Value) (base : Heap) (cx : CXT) (k : Nat) (x : Str) (ps : List Str) (sp : Sp) : Prop where
  ex : ∃ f fd, mg x = some (.ref f) ∧ PySem.W.keepIn K (.ref f) = true ∧ Binds K fd ps [] ∧ FnOkG P w K mg base cx k f fd ps sp
section
variable {P : Program} {w : World} {K : PySem.W.Frag} {mg : Str → Option Value} {base : Heap} {x qual : Str} {params : Arguments} {body : List Stmt} {scope : Scope} {dvs : List V} {kws : List (Str × V)} {f : Addr} {fd : FuncData}
theorem CallDG.mono {cx : CXT} {j k : Nat} {x : Str} {ps : List Str} {sp : Sp} (c : CallDG P w K mg base cx j x ps sp) (h : j ≤ k) : CallDG P w K mg base cx k x ps sp := by
  obtain ⟨f, fd, h1, h2, h3, F⟩ := c.ex
  exact ⟨f, fd, h1, h2, h3, F.len, fun A outs s H args us vs Q E hA hr => F.go A outs s H args us vs Q E hA (hr.mono h)⟩
end
section
variable {X : Cx} {cx : CXT} {k : Nat} {ps : List Str} {sp : Sp} {E : XK} {x : Str} {p pos : Pos} {e : Expr} {es : List Expr} {t : TA}
end
section
variable {P : Program} {w : World} {K : PySem.W.Frag} {mg mb : Str → Option Value} {cx : CXT} {k : Nat} {fa a : Addr} {ts : List (Addr × Addr)} {fd : FuncData} {x : Str} {sp : Sp} {s1 : Shared} {vs : List Value} {ns : List Int}
end
end JW
namespace AL
open PySem PySem.Spec PyProof.Rows L2 LamX JW
section
variable {P : Program} {w : World} {K : PySem.W.Frag} {mg : Str → Option Value} {base : Heap} {c : AC K} {x qual : Str} {st : Stmt} {N ps : List Str} {k : Nat} {asp : ASp}
end
section
variable {X : Cx} {c : AC X.K} {H0 : Hp} {e : Expr} {es : List Expr} {as : ATA} {x : Str} {p pos : Pos} {k : Nat} {ps : List Str} {asp : ASp}
end
end AL
namespace JW
open PySem PySem.Spec PyProof.Rows L2
section
variable {X : Cx} {CX : CXT} {k : Nat} {ps : List Str} {sp : Sp} {E : XK} {C : Addr}
end
end JW
namespace AL
open PySem PySem.Spec PyProof.Rows L2 LamX JW
def tyM : Option MO → Option String
  | some (.lst _) => some "list"
  | some (.dct _) => some "dict"
  | _ => none
def tyN (L : Store) : D → Option String
  | .non => some "NoneType"
  | .bl _ => some "bool"
  | .int _ => some "int"
  | .str _ => some "str"
  | .tup _ => some "tuple"
  | .ref p => tyM (L p)
  | _ => none
def clsD : D → Option Value
  | .ty n => some (.type n)
  | .ref C => some (.ref C)
  | _ => none
def clsDs : List D → Option (List Value)
  | [] => some []
  | d :: ds => match clsD d, clsDs ds with
    | some u, some us => some (u :: us)
    | _, _ => none
def isiA (K : PySem.W.Frag) : List D → Store → AQ → Prop
  | [d, .tup cs], L, Q => ∃ T us b, tyN L d = some T ∧ clsDs cs = some us ∧ PySem.W.kitAny K (.type T) us = some b ∧ Q (.bl b) L
  | [.tree _, .ref C], L, Q => C = cF K ∧ Q (.bl true) L
  | [d, c], L, Q => ∃ T u b, tyN L d = some T ∧ clsD c = some u ∧ PySem.W.kitOne K (.type T) u = some b ∧ Q (.bl b) L
  | _, _, _ => False
section
variable {X : Cx} {c : AC X.K}
theorem tyN_low {L : Store} {H : Hp} {d : D} {v : V} {T : String} (r : Rep c H d v) (g : Good c L H) (h : tyN L d = some T) : TyX X.K H v (.type T) := by
  cases d with
  | non => cases rep_non.mp r; cases h; exact .base .non
  | bl b => cases rep_bl.mp r; cases h; exact .base (.bl b)
  | int i => cases rep_int.mp r; cases h; exact .base (.int i)
  | str s => cases rep_str.mp r; cases h; exact .base (.str s)
  | tup l =>
    obtain ⟨p, vs, rfl, e, rs⟩ := rep_tup.mp r
    cases h
    rcases e with (e | ⟨o, e⟩) | ⟨o, its, n, e, h1, _⟩
    · exact .base (.tup e)
    · exact .fTuple e
    · exact .kTuple e h1
  | ref p =>
    cases rep_ref.mp r
    have h : tyM (L p) = some T := h
    match e : L p, h with
    | some (.lst l), h =>
      cases h
      obtain ⟨vs, e1, _⟩ := good_lst g e
      exact .base (.lst e1)
    | some (.dct l), h =>
      cases h
      obtain ⟨kvs, e1, _⟩ := g.st _ _ e
      exact .base (.dK e1)
    | none, h => cases h
    | some (.ins _ _ _), h => cases h
    | some (.opq _), h => cases h
    | some (.lsq _), h => cases h
  | ty n => cases h
  | scr => cases h
  | tree t => cases h
  | obj C ks ds => cases h
  | err C ks ds => cases h
theorem clsD_low {H : Hp} {d : D} {v : V} {u : Value} (r : Rep c H d v) (h : clsD d = some u) : ClsV v u := by
  cases d with
  | ty n => cases rep_ty.mp r; cases h; exact .ty n
  | ref p => cases rep_ref.mp r; cases h; exact .own p
  | _ => cases h
theorem clsDs_low {H : Hp} : ∀ {ds : List D} {vs : List V} {us : List Value}, RepL c H ds vs → clsDs ds = some us → Paired ClsV vs us
  | [], vs, us, r, h => by
    cases repL_nil.mp r
    cases h
    exact .nil
  | d :: ds, vs, us, r, h => by
    obtain ⟨v, vr, rfl, r1, r2⟩ := repL_cons.mp r
    unfold clsDs at h
    split at h
    · rename_i u ur e1 e2
      cases h
      exact .cons (clsD_low r1 e1) (clsDs_low r2 e2)
    · cases h
def rIsiF (K : PySem.W.Frag) (xs : List V) (H : Hp) (Q : VK) : Prop := ∃ (x : V) (tp : Addr) (o : Obj) (cs : List V) (t : Value) (us : List Value) (b : Bool), xs = [x, .ref tp] ∧ H tp = some (.frz o (.tup cs)) ∧ Paired ClsV cs us ∧ TyX K H x t ∧ PySem.W.kitAny K t us = some b ∧ Q (.bl b) H
theorem call_isiF : CallR X (.builtin "isinstance") (rIsiF X.K) := by
  intro pins s σ H xs us Q I r h
  obtain ⟨x, tp, o, cs, t, ws, b, rfl, hT, k, ty, e, q⟩ := h
  obtain ⟨u1, u2, rfl, r1, r2⟩ := vals2 r
  cases (show u2 = Value.ref tp from r2)
  obtain ⟨P, Z, p, hx⟩ := kit_of I r1 ty
  obtain ⟨_, _, its, rv, ob, h1, h2, n, h3⟩ := (show ObjOk X.prog X.w H s.heap tp (.frz o (.tup cs)) from I.hok tp _ hT)
  cases ClsV.all k rv
  obtain ⟨oc, od, dt, sl⟩ := ob
  cases h2
  cases h3
  exact PySem.W.kia_tup Z I.kIn p h1 e hx fun tk => ⟨.bl b, H, I.tok tk, rfl, q⟩
theorem acb_isiA {K : PySem.W.Frag} (eK : X.K = K) (cl : ClsF X.K X.mg) : ACB X c (.builtin "isinstance") (isiA K) := by
  subst eK
  refine ACB.mk' (r := fun vs H Q => rIsi X.K vs H Q ∨ (rIsiT X.K vs H Q ∨ (rIsiF X.K vs H Q ∨ rIsiK X.K vs H Q))) (fun pins s σ H xs us Q I rv h => h.elim (call_isi pins s σ H xs us Q I rv) fun h => h.elim (call_isiT pins s σ H xs us Q I rv) fun h => h.elim (call_isiF pins s σ H xs us Q I rv) (call_isiK pins s σ H xs us Q I rv)) fun vs H Q ds L R r g h pq => ?_
  unfold isiA at h
  split at h
  · obtain ⟨T, us, b, e1, e2, e3, h⟩ := h
    obtain ⟨v, w, rfl, r1, r2⟩ := repL_two r
    obtain ⟨p, ws, rfl, e, rs⟩ := rep_tup.mp r2
    rcases e with (e | ⟨o, e⟩) | ⟨o, its, n, e, h1, hz⟩
    · exact .inr (.inl ⟨v, p, ws, _, us, b, rfl, e, clsDs_low rs e2, tyN_low r1 g e1, e3, pq.here h g (rep_bl.mpr rfl)⟩)
    · exact .inr (.inr (.inl ⟨v, p, o, ws, _, us, b, rfl, e, clsDs_low rs e2, tyN_low r1 g e1, e3, pq.here h g (rep_bl.mpr rfl)⟩))
    · obtain ⟨hs, _, rv⟩ := hz
      have eu := ClsV.all (clsDs_low rs e2) rv
      obtain ⟨oc, od, dt, sl⟩ := o
      cases h1
      cases hs
      exact .inr (.inr (.inr ⟨v, p, od, us, n, sl, _, b, rfl, by rw [e, ← eu], tyN_low r1 g e1, e3, pq.here h g (rep_bl.mpr rfl)⟩))
  · obtain ⟨hc, h⟩ := h
    obtain ⟨v, w, rfl, r1, r2⟩ := repL_two r
    cases rep_ref.mp r2
    subst hc
    obtain ⟨a, dx, b, n, vs, rfl, ha, _⟩ := ftn_iff.mp (rep_tree.mp r1)
    exact .inl ⟨_, _, _, _, true, rfl, .own _, cl.ty ha, isi_self, pq.here h g (rep_bl.mpr rfl)⟩
  · obtain ⟨T, u, b, e1, e2, e3, h⟩ := h
    obtain ⟨v, w, rfl, r1, r2⟩ := repL_two r
    exact .inl ⟨_, _, _, _, b, rfl, clsD_low r2 e2, tyN_low r1 g e1, e3, pq.here h g (rep_bl.mpr rfl)⟩
  · exact h.elim
end
theorem not_first {K : PySem.W.Frag} {C : Addr} {T : String} (h : PySem.W.kitOne K (.type T) (.ref C) = some false) : PySem.W.notFirst K C (.type T) = true := by
  have h2 : PySem.W.kitCls K (.type T) (.ref C) = some false := by
    unfold PySem.W.kitOne at h
    split at h
    · cases h
    · exact h
  have h3 : PySem.W.subIn K (.type T) (.ref C) = some false := by
    have h2 : (if ((PySem.W.clsIn K C).isSome && PySem.W.typeIn K (.ref C) == some (.type "type")) = true then PySem.W.subIn K (.type T) (.ref C) else none) = some false := h2
    split at h2
    · exact h2
    · cases h2
  unfold PySem.W.notFirst
  rw [h3]
  simp
section
variable {X : Cx} {c : AC X.K} {k : Nat} {ps : List Str} {asp : ASp} {qual : Str} {st : Stmt}
end
end AL
namespace JW
open PySem PySem.Spec PyProof.Rows L2 Builtin Builtin.Str
end JW
namespace AL
open PySem PySem.Spec PyProof.Rows L2 JW
mutual
/-- data made of None, booleans, integers, texts, tuples -/
def plainD : D → Bool
  | .non => true
  | .bl _ => true
  | .int _ => true
  | .str _ => true
  | .tup l => plainL l
  | _ => false
def plainL : List D → Bool
  | [] => true
  | d :: l => plainD d && plainL l
end
mutual
theorem eqDD_self : ∀ d : D, plainD d = true → eqDD d d = some true
  | .non, _ => by simp [eqDD, AL.flatB, vD, eqV]
  | .bl b, _ => by simp [eqDD, AL.flatB, vD, eqV]
  | .int i, _ => by simp [eqDD, AL.flatB, vD, eqV]
  | .str z, _ => by simp [eqDD, AL.flatB, vD, eqV]
  | .tup l, h => by
    have h : plainL l = true := h
    have e := eqDL_self l h
    show (eqDL l l).map _ = some true
    rw [e]
    simp
  | .ref _, h => nomatch h
  | .ty _, h => nomatch h
  | .scr, h => nomatch h
  | .tree _, h => nomatch h
  | .obj _ _ _, h => nomatch h
  | .err _ _ _, h => nomatch h
theorem eqDL_self : ∀ l : List D, plainL l = true → eqDL l l = some true
  | [], _ => rfl
  | d :: l, h => by
    have h : (plainD d && plainL l) = true := h
    obtain ⟨h1, h2⟩ := Bool.and_eq_true_iff.mp h
    have e1 := eqDD_self d h1
    have e2 := eqDL_self l h2
    simp only [eqDL, e1, e2]
    rfl
end
theorem eqSq_self {neg : Bool} {l : List D} {L : Store} {Q : AQ} (h : plainL l = true) (hd : depDL l ≤ 70) (q : Q (.bl (!neg)) L) : eqSq neg l l L Q := by
  refine ⟨true, eqDL_self l h, hd, ?_⟩
  have e : (neg ^^ (true && l.length == l.length)) = !neg := by simp
  rw [e]
  exact q
end AL
namespace JW
open PySem PySem.Spec PyProof.Rows L2
section
variable {X : Cx} {CX : CXT} {k : Nat} {f C : Addr} {fd : FuncData} {ps : List Str} {sp : Sp} {dvs : List V} {ds : List Value} {E : L2.St → XK} {x : Str} {p pos : Pos} {e : Expr} {es : List Expr} {t : TA}
end
def rIsXT (K : PySem.W.Frag) (cls : Value) (d : Option Addr) (a : Addr) : List V → Hp → VK → Prop := fun xs H Q => ∃ (C tp : Addr) (cs : List V) (us : List Value) (b : Bool), cls = .ref C ∧ ExcC K C ∧ xs = [.ref a, .ref tp] ∧ H tp = some (.tup cs) ∧ Paired ClsV cs us ∧ PySem.W.kitAny K (.ref C) us = some b ∧ (∀ dd, d = some dd → ∃ fs, H dd = some (.xd fs)) ∧ Q (.bl b) H
theorem call_isXT {X : Cx} {a : Addr} {oe : Obj} {cls : Value} {d : Option Addr} {pn : List (Addr × Obj)} (hz : Zc cls d oe) (hf : ∃ vs, oe.data = .fields vs) : CallR (X.suite a ((a, oe) :: pn)) (.builtin "isinstance") (rIsXT X.K cls d a) := by
  intro pins s σ H xs us Q I r h
  obtain ⟨D, tp, cs, ws, b, rfl, C, rfl, hT, k, e, hd, q⟩ := h
  obtain ⟨u1, u2, rfl, r1, r2⟩ := vals2 r
  cases (show u2 = Value.ref tp from r2)
  cases (show u1 = Value.ref a from r1)
  obtain ⟨_, its, rv, o, h1, h2, n, h3⟩ := (show ObjOk X.prog X.w H s.heap tp (.tup cs) from I.hok tp _ hT)
  have e3 := ClsV.all k rv
  subst e3
  obtain ⟨oc, od, dt, sl⟩ := o
  simp only at h2 h3
  subst h2 h3
  obtain ⟨hget, _⟩ := I.pin (a, oe) (List.mem_append.mpr (.inl List.mem_cons_self))
  obtain ⟨vs, hv⟩ := hf
  obtain ⟨od, J⟩ : ∃ od, PySem.W.InstAt s.heap a oe D od := by
    cases d with
    | none =>
      refine ⟨none, hget, hz.1, by unfold PySem.W.notCls; rw [hv] <;> rfl, ?_⟩
      rw [hz.2]
      trivial
    | some dd =>
      obtain ⟨fs, ed⟩ := hd dd rfl
      have hx : ObjOk X.prog X.w H s.heap dd (.xd fs) := I.hok dd _ ed
      obtain ⟨mA, hns, hr⟩ := hx
      obtain ⟨od, ho, hl⟩ := lookIn_ns hns
      exact ⟨some od, hget, hz.1, by unfold PySem.W.notCls; rw [hv] <;> rfl, by rw [hz.2]; exact ho⟩
  have hcl : (PySem.W.clsIn X.K D).isSome = true := by
    obtain ⟨cd, h1, _⟩ := PySem.W.any_some C.hd
    rw [h1] <;> rfl
  exact PySem.W.kia_tup (PySem.W.kitx_exc hcl C.hg C.hk C.hs C.ha C.hn C.ht C.hm) I.kIn J h1 e (fun z => nomatch z) fun tk => ⟨.bl b, H, I.kept (t' := tk) fun _ _ z => z, rfl, q⟩
theorem kitAny_nil {K : PySem.W.Frag} {t : Value} : PySem.W.kitAny K t [] = some false := rfl
theorem kitAny_f {K : PySem.W.Frag} {t u : Value} {us : List Value} {b : Bool} (h : PySem.W.kitOne K t u = some false) (h2 : PySem.W.kitAny K t us = some b) : PySem.W.kitAny K t (u :: us) = some b := by
  unfold PySem.W.kitAny
  rw [h]
  exact h2
structure ClsL (X : Cx) (es : List Expr) (Cs : List Addr) : Prop where
  ex : ∃ t, PA X es t ∧ ∀ (σ : L2.St) (H : Hp) (Q : List V → Hp → Prop), Q (Cs.map V.ref) H → t σ H Q
theorem cls_nil {X : Cx} : ClsL X [] [] := ⟨tNil, pa_nil, fun _ _ _ h => h⟩
theorem cls_cons {X : Cx} {z : Str} {C : Addr} {p : Pos} {es : List Expr} {Cs : List Addr} (hg : Gl X z) (hC : X.mg z = some (.ref C)) (h : ClsL X es Cs) (hd : (z == ("__debug__" : Str)) = false := by decide)
    (he : starEach (.Name z p :: es) X.env = (false, eval (.Name z p) X.env) :: starEach es X.env := by rfl) : ClsL X (.Name z p :: es) (C :: Cs) := by
  obtain ⟨t, h1, h2⟩ := h.ex
  exact ⟨_, pa_cons (pe_glob (v := .ref C) hg hC rfl hd) h1 he, fun σ H Q q => h2 σ H _ q⟩
theorem clsV_refs : ∀ Cs : List Addr, Paired ClsV (Cs.map V.ref) (Cs.map Value.ref)
  | [] => .nil
  | C :: Cs => .cons (.own C) (clsV_refs Cs)
end JW
namespace AL
open PySem PySem.Spec PyProof.Rows L2 LamX JW
section
variable {X : Cx} {c : AC X.K} {H0 : Hp} {e : Expr} {es : List Expr} {as : ATA} {x : Str} {p pos : Pos} {k : Nat} {ps : List Str} {asp : ASp} {RXe : En → AX} {dvs : List V} {C : Addr} {sp : Sp}
end
def aIsXT (K : PySem.W.Frag) (a : Addr) (y : Str) (Cs : List Addr) (i : Nat) : ATE := fun env L Q => env[i]? = some (some (.ref a)) ∧ Cs.length ≤ 100 ∧ ∃ b, PySem.W.kitAny K (.ref (He.ga K y)) (Cs.map Value.ref) = some b ∧ ExcC K (He.ga K y) ∧ Q (.bl b) L
section
variable {X : Cx} {c : AC X.K} {H1 : Hp} {a : Addr} {oe : Obj} {cls : Value} {d : Option Addr} {pn : List (Addr × Obj)} {y : Str} {fs : List (Str × D)} {i : Nat} {n : Str} {p p1 p2 pos : Pos} {es : List Expr} {Cs : List Addr}
theorem ae_isXT {x1} {K : PySem.W.Frag} (eK : X.K = K) (hz : Zc cls d oe) (hf : ∃ vs, oe.data = .fields vs) (ec : cls = .ref (He.ga X.K y)) (er : ErrR c H1 fs d) (hg : Gl X "isinstance") (hm : X.mg "isinstance" = none) (hN : X.N[i]? = some n) (hv : Vis X.env.scope n)
    (hcs : ClsL (X.suite a ((a, oe) :: pn)) es Cs) (hd : (n == ("__debug__" : Str)) = false := by decide) (hcd : (n == ("__classdict__" : Str)) = false := by decide)
    (he : starEach [.Name n p1, .Tuple es x1 p2] X.env = (false, eval (.Name n p1) X.env) :: starEach [.Tuple es x1 p2] X.env := by rfl) (he2 : starEach [.Tuple es x1 p2] X.env = (false, eval (.Tuple es x1 p2) X.env) :: starEach [] X.env := by rfl) (hpl : (backTo pos (starEach [.Tuple es x1 p2] X.env)).any (·.1) = false := by rfl) :
    AE (X.suite a ((a, oe) :: pn)) c H1 (.Call (.Name "isinstance" p) [.Name n p1, .Tuple es x1 p2] [] pos) (aIsXT K a y Cs i) := by
  subst eK
  obtain ⟨t, ht, ht2⟩ := hcs.ex
  have hE : PE (X.suite a ((a, oe) :: pn)) (.Name n p1) (tVar i) := pe_var (X := X.suite a ((a, oe) :: pn)) hN hv hd hcd
  refine (pe_callB (X := X.suite a ((a, oe) :: pn)) (call_isXT hz hf) hg hm (by decide +kernel) (pa_cons hE (pa_cons (pe_tup ht) pa_nil he2) he) (by decide) (by decide) he hpl).imp fun σ H Q ⟨env, L, R, rl, h, pq⟩ => ?_
  obtain ⟨e1, hl, b, e2, e3, q⟩ := h
  obtain ⟨v, e4, r⟩ := rl.env.get i _ e1
  cases rep_ref.mp r
  refine ⟨_, e4, ht2 _ _ _ ⟨by rw [List.length_map, sizeLine_eq]; omega, fun tp htp => ⟨_, tp, _, _, b, ec, e3, rfl, upd_same, clsV_refs Cs, e2, fun dd ed => ?_, ?_⟩⟩⟩
  · obtain ⟨fs', hdd⟩ := (er.fr rl.fr).xd dd ed
    exact ⟨fs', upd_old hdd htp⟩
  · exact pq.new htp q rl.good (rep_bl.mpr rfl)
end
end AL
namespace AL
open PySem PySem.Spec PyProof.Rows L2 LamX JW
section
variable {X : Cx} {c : AC X.K} {H0 : Hp} {e : Expr} {as : ATA} {p pos tpos : Pos} {elts : List Expr} {kk : Nat}
end
end AL
namespace GK
open PySem PySem.Spec PyProof.Rows L2 LamX JW AL
section
variable {X : Cx} {c : AC X.K} {pins : List (Addr × Obj)} {env : En} {L : Store} {H : Hp} {s : Shared}
end
section
variable {X : Cx} {c : AC X.K} {e f : Expr} {a b : ATE} {as : ATA} {es : List Expr} {t : ATT} {pos p : Pos}
variable {x : Str} {C : Addr} {ps : List Str} {dvs : List V} {sp : Sp} {asp : ASp} {k : Nat}
end
end GK
namespace GK
open PySem PySem.Spec PyProof.Rows L2 LamX JW AL
section
variable {X : Cx} {c : AC X.K} {pins : List (Addr × Obj)} {env : En} {L : Store} {H : Hp} {s : Shared} {R : AQ} {f : Addr} {fd : FuncData} {ps : List Str} {asp : ASp} {k : Nat}
end
section
variable {X : Cx} {c : AC X.K} {e : Expr} {es : List Expr} {as : ATA} {a : ATE} {x : Str} {p pos : Pos} {ps : List Str} {asp : ASp} {k : Nat}
end
end GK
namespace GK
open PySem PySem.Spec PyProof.Rows L2 LamX JW AL
section
variable {P : Program} {w : World} {K : PySem.W.Frag} {mg : Str → Option Value} {base : Heap} {c : AC K} {x qual : Str} {st : Stmt} {N ps : List Str} {k : Nat} {asp : ASp}
end
end GK
namespace GK
open PySem PySem.Spec PyProof.Rows L2 LamX JW AL
section
variable {X : Cx} {c : AC X.K}
end
end GK
namespace GK
open PySem PySem.Spec PyProof.Rows L2 LamX JW AL
section
variable {X : Cx} {c : AC X.K} {pins : List (Addr × Obj)} {env : En} {L : Store} {H : Hp} {s : Shared} {R : AQ} {f : Addr} {fd : FuncData} {ps : List Str} {asp : ASp} {k : Nat}
end
section
variable {X : Cx} {c : AC X.K} {e : Expr} {es : List Expr} {as : ATA} {a : ATE} {x : Str} {p pos : Pos} {ps : List Str} {asp : ASp} {k : Nat}
end
end GK
theorem _root_.JW.CmD.imp {P : PySem.Program} {w : PySem.World} {K : PySem.W.Frag} {mg : PySem.Str → Option PySem.Value} {base : PySem.Heap} {CX : L2.CXT} {k : Nat} {C : PySem.Addr} {m : PySem.Str} {ps : List PySem.Str} {sp sp' : L2.Sp} (M : JW.CmD P w K mg base CX k C m ps sp) (h : ∀ vs H Q E, sp' vs H Q E → sp vs H Q E) : JW.CmD P w K mg base CX k C m ps sp' := by
  obtain ⟨mc, p, f, fd, h1, h2, h3, F⟩ := M.ex
  exact ⟨mc, p, f, fd, h1, h2, h3, F.imp h⟩
namespace GK
open PySem PySem.Spec PyProof.Rows L2 LamX JW AL
section
variable {X : Cx} {c : AC X.K} {e : Expr} {es : List Expr} {as : ATA} {x : Str} {p pos : Pos} {k : Nat} {ps : List Str} {asp : ASp}
end
end GK
namespace GK
open PySem PySem.Spec PyProof.Rows L2 LamX JW AL
section
variable {X : Cx} {c : AC X.K} {pins : List (Addr × Obj)} {env : En} {L : Store} {H : Hp} {s : Shared} {kk : Nat}
end
end GK
namespace GK
open PySem PySem.Spec PyProof.Rows L2 LamX JW AL
section
variable {X : Cx} {c : AC X.K} {pins : List (Addr × Obj)} {env : En} {L : Store} {H : Hp} {s : Shared}
end
section
variable {X : Cx} {c : AC X.K} {e : Expr} {es : List Expr} {as : ATA} {a : ATE} {pos : Pos}
end
end GK
namespace GK
open PySem PySem.Spec PyProof.Rows L2 LamX JW AL
section
variable {X : Cx} {c : AC X.K} {e f : Expr} {a b : ATE} {as : ATA} {es : List Expr} {t : ATT} {pos p : Pos} {x : Str} {C : Addr} {ps : List Str} {dvs : List V} {sp : Sp} {asp : ASp} {k : Nat}
end
end GK
namespace JW
open PySem PySem.Spec PyProof.Rows L2
end JW
namespace AL
open PySem PySem.Spec PyProof.Rows L2 LamX JW
section
variable {X : Cx} {c : AC X.K} {H0 : Hp} {e e2 : Expr} {as : ATA} {dv : ATE} {p pos kp : Pos} {x : Str}
end
end AL
namespace GK
open PySem PySem.Spec PyProof.Rows L2 LamX JW AL
section
variable {P : Program} {w : World} {K : PySem.W.Frag} {mg : Str → Option Value} {base : Heap} {c : AC K} {x qual : Str} {st : Stmt} {N ps : List Str} {k : Nat} {asp : ASp}
end
end GK
namespace AL
open PySem PySem.Spec PyProof.Rows L2 LamX JW
def sackM (g : Addr) : MO := .opq fun o => ∃ a b c : Int, o = .dK (sackD g a b c)
def intsM (ns : List Int) : MO := .lst (ns.map .int)
def SkAt (L : Store) (d g : Addr) : Prop := d ≠ g ∧ L d = some (sackM g) ∧ ∃ ns, L g = some (intsM ns)
def Sk (g : Addr) (L L' : Store) : Prop := ∀ p m, p ≠ g → L p = some m → L' p = some m
section
variable {L L1 L2 : Store} {d g p : Addr} {m : MO} {ns : List Int}
theorem Sk.refl (g : Addr) (L : Store) : Sk g L L := fun _ _ _ h => h
theorem Sk.trans (a : Sk g L L1) (b : Sk g L1 L2) : Sk g L L2 := fun p m n h => b p m n (a p m n h)
theorem Sk.of (s : SubS L L1) : Sk g L L1 := fun p m _ h => s p m h
theorem Sk.new (a : Sk g L L1) (hp : L1 p = none) : Sk g L (sput L1 p m) := fun q n ne h => sput_old (a q n ne h) hp
theorem Sk.at (a : Sk g L L1) : Sk g L (sput L1 g m) := fun q n ne h => by rw [sput_ne ne]; exact a q n ne h
theorem Sk.put (a : Sk g L L1) (hp : L p = none) : Sk g L (sput L1 p m) := fun q n ne h => by
  rw [sput_ne fun e => by rw [e, hp] at h; cases h]
  exact a q n ne h
theorem Sk.nil (a : Sk g L L1) (ne : p ≠ g) (hp : L1 p = none) : L p = none := by
  cases e : L p with
  | none => rfl
  | some m => rw [a p m ne e] at hp; cases hp
theorem SkAt.ne (h : SkAt L d g) (hp : L p = none) : p ≠ d ∧ p ≠ g := by
  obtain ⟨_, h1, ns, h2⟩ := h
  exact ⟨fun e => (by rw [e, h1] at hp; cases hp), fun e => (by rw [e, h2] at hp; cases hp)⟩
theorem SkAt.new (h : SkAt L d g) (hp : L p = none) : SkAt (sput L p m) d g := by
  obtain ⟨n1, n2⟩ := h.ne hp
  obtain ⟨n, h1, ns, h2⟩ := h
  exact ⟨n, by rw [sput_ne n1.symm]; exact h1, ns, by rw [sput_ne n2.symm]; exact h2⟩
theorem SkAt.off (h : SkAt L d g) (n1 : p ≠ d) (n2 : p ≠ g) : SkAt (sput L p m) d g := by
  obtain ⟨n, h1, ns, h2⟩ := h
  exact ⟨n, by rw [sput_ne n1.symm]; exact h1, ns, by rw [sput_ne n2.symm]; exact h2⟩
theorem SkAt.at (h : SkAt L d g) (ns : List Int) : SkAt (sput L g (intsM ns)) d g := by
  obtain ⟨n, h1, _⟩ := h
  exact ⟨n, by rw [sput_ne n]; exact h1, ns, sput_same⟩
theorem SkAt.sub (h : SkAt L d g) (s : SubS L L1) : SkAt L1 d g := ⟨h.1, s _ _ h.2.1, let ⟨ns, e⟩ := h.2.2; ⟨ns, s _ _ e⟩⟩
theorem Sk.end (a : Sk g L L1) (h : SkAt L1 d g) {R : AQ} {x : D} (r : ∀ ns, R x (sput L g (intsM ns))) : ∃ L0, SubS L0 L1 ∧ R x L0 := by
  obtain ⟨_, _, ns, e⟩ := h
  refine ⟨sput L g (intsM ns), fun p m q => ?_, r ns⟩
  by_cases z : p = g
  · subst z
    rw [sput_same] at q
    cases q
    exact e
  · rw [sput_ne z] at q
    exact a p m z q
theorem Sk.endN (a : Sk g L L1) (h : SkAt L1 d g) (hp : L p = none) (hpg : p ≠ g) (hm : L1 p = some m) {R : AQ} {x : D} (r : ∀ ns, R x (sput (sput L g (intsM ns)) p m)) : ∃ L0, SubS L0 L1 ∧ R x L0 := by
  obtain ⟨_, _, ns, e⟩ := h
  refine ⟨sput (sput L g (intsM ns)) p m, fun q n e2 => ?_, r ns⟩
  by_cases z : q = p
  · subst z
    rw [sput_same] at e2
    cases e2
    exact hm
  · rw [sput_ne z] at e2
    by_cases z2 : q = g
    · subst z2
      rw [sput_same] at e2
      cases e2
      exact e
    · rw [sput_ne z2] at e2
      exact a q n z2 e2
end
section
variable {K : PySem.W.Frag} {c : AC K} {H H' : Hp} {L : Store} {d g : Addr}
end
theorem comp_filt {α : Type} {g : ATG} {t : ATT} {a : ATE} {G : Store → Prop} {p : Addr} {env : En} {Q : AQ} {L0 : Store} (f h : α → D) (kp : α → Bool) (hG : ∀ l, G (sput L0 p (.lst l))) : ∀ (ws : List α) (acc : List D), acc.length + ws.length ≤ sizeLine →
    (∀ w ∈ ws, ∀ (l : List D) (k : Bool → D → Store → Prop), k (kp w) (h w) (sput L0 p (.lst l)) → g (f w) env (sput L0 p (.lst l)) fun env1 L1 => L1 = sput L0 p (.lst l) ∧ t env1 L1 fun b L2 => if b = true then a env1 L2 fun x L3 => k true x L3 else k false (h w) L2) →
    Q (.ref p) (sput L0 p (.lst (acc ++ (ws.filter kp).map h))) → compA g t a G p env Q (ws.map f) acc (sput L0 p (.lst acc))
  | [], acc, hz, hs, q => ⟨hG acc, sput_same, by simpa using q⟩
  | w :: ws, acc, hz, hs, q => by
    refine ⟨hG acc, sput_same, ?_⟩
    rw [List.length_cons] at hz
    have ih := comp_filt (a := a) (t := t) (g := g) (env := env) (Q := Q) f h kp hG ws
    refine hs w List.mem_cons_self acc (fun b x L3 => if b = true then acc.length < sizeLine ∧ L3 p = some (.lst acc) ∧ compA g t a G p env Q (ws.map f) (acc ++ [x]) (sput L3 p (.lst (acc ++ [x]))) else compA g t a G p env Q (ws.map f) acc L3) ?_
    cases hk : kp w with
    | true =>
      rw [if_pos rfl]
      refine ⟨by omega, sput_same, ?_⟩
      rw [sput_sput]
      refine ih (acc ++ [h w]) (by rw [List.length_append]; show acc.length + 1 + ws.length ≤ _; omega) (fun d' h' => hs d' (List.mem_cons_of_mem _ h')) ?_
      rw [List.filter_cons_of_pos hk, List.map_cons] at q
      rw [List.append_assoc]
      exact q
    | false =>
      rw [if_neg Bool.false_ne_true]
      refine ih acc (by omega) (fun d' h' => hs d' (List.mem_cons_of_mem _ h')) ?_
      rw [List.filter_cons_of_neg (by rw [hk]; exact Bool.false_ne_true)] at q
      exact q
end AL
namespace JW
end JW
namespace AL
open PySem PySem.Spec PyProof.Rows L2 LamX JW
section
variable {X : Cx} {c : AC X.K} {k : Nat} {ps : List Str} {pins : List (Addr × Obj)} {σ : L2.St} {H : Hp}
end
end AL
namespace AL
open PySem PySem.Spec PyProof.Rows L2 LamX JW
section
variable {X : Cx} {c : AC X.K}
end
end AL
namespace AL
open PySem PySem.Spec PyProof.Rows L2 LamX JW
section
variable {K : PySem.W.Frag} {c : AC K} {H : Hp} {L : Store}
end
section
variable {X : Cx} {c : AC X.K} {H0 : Hp} {e f : Expr} {as : ATA} {p pos tpos : Pos} {elts : List Expr} {kk : Nat}
end
end AL
namespace JW
open PySem PySem.Spec PyProof.Rows L2
section
variable {P : Program} {w : World} {K : PySem.W.Frag} {mg : Str → Option Value} {base : Heap}
theorem StarAt.okX {x qual : Str} {st : Stmt} {N ps : List Str} {pv : Str} {k : Nat} {sp : Sp} (D : StarAt K mg x qual st ps pv) (S : FnScope N (ps ++ [pv]) (defScope st))
    (hbody : ∀ (f : Addr) (cdv : Value) (A : Around) (outer : List Env) (s : Shared) (H : Hp) (vs : List V) (Q : VK) (E : XK), Room k (A.deeper (envOfC qual (defScope st) s.heap.objs.size f cdv)) → sp vs H Q E →
      ∃ t, PSs (cxOf (L2.CX P w) P w K mg base N qual (defScope st) f cdv A outer s H E) (defBody st) t ∧ t { nx := fun _ H' => Q .non H', rt := Q } (start N vs) H) : CallS P w K mg base (L2.CX P w) (k + 1) x (starSp ps.length sp) := by
  obtain ⟨f, fd, h1, F, hb⟩ := D.ex
  have hk := F.kp
  obtain ⟨oc, od, dV, kV, doc, pm, an, cdv, ct, osl, rfl, lk, hcd, _, _⟩ := F.ex
  exact ⟨f, h1, hk, StX.fn_star lk hcd S StX.cxUp hb fun A outer s H vs Q E hr h => hbody f cdv A outer s H vs Q E hr h⟩
end
end JW
namespace AL
open PySem PySem.Spec PyProof.Rows L2 LamX JW
section
variable {P : Program} {w : World} {K : PySem.W.Frag} {mg : Str → Option Value} {base : Heap} {c : AC K} {x m qual : Str} {st : Stmt} {N : List Str} {k : Nat} {asp : ASp} {pv : Str}
theorem _root_.JW.StarAt.okAX {a : AX → ATS} (D : StarAt K mg x qual st [] pv) (S : FnScope N [pv] (defScope st))
    (body : ∀ (f : Addr) (cdv : Value) (A : Around) (outer : List Env) (s : Shared) (H : Hp) (E : XK) (RX : AX), Px c H RX E → Room k (A.deeper (envOfC qual (defScope st) s.heap.objs.size f cdv)) → ASs (cxOf (L2.CX P w) P w K mg base N qual (defScope st) f cdv A outer s H E) c H (defBody st) (a RX))
    (vc : ∀ ds L R RX, asp ds L R RX → a RX (fnEnds R) (startA N ds) L) : CallS P w K mg base (L2.CX P w) (k + 1) x (starSp 0 (spA c asp)) :=
  StarAt.okX (ps := []) D S fun f cdv A outer s H vs Q E hr ⟨ds, L, R, RX, r, g, h, pq, px⟩ => ⟨_, body f cdv A outer s H E RX px hr, body_low r g pq (vc ds L R RX h)⟩
end
def aCallSt (asp : ASp) (RX : AX) (as : ATA) : ATE := fun env L Q => as env L fun ds L1 => ds.length ≤ sizeLine ∧ asp [.tup ds] L1 Q RX
section
variable {X : Cx} {c : AC X.K} {H0 : Hp} {e : Expr} {es : List Expr} {as : ATA} {x : Str} {p pos : Pos} {k : Nat} {asp : ASp} {CX : CXT} {E : XK} {RX : AX}
theorem ae_callStX (C : CallS X.prog X.w X.K X.mg X.base CX k x (starSp 0 (spA c asp))) (hr : Room k X.A) (hg : Gl X x) (hx : Passes CX X E) (hE : Px c H0 RX E) (ha : AA X c H0 (e :: es) as) (hdb : (x == ("__debug__" : Str)) = false := by decide)
    (he : starEach (e :: es) X.env = (false, eval e X.env) :: starEach es X.env := by rfl) (hpl : (backTo pos (starEach es X.env)).any (·.1) = false := by rfl) : AE X c H0 (.Call (.Name x p) (e :: es) [] pos) (aCallSt asp RX as) := by
  refine (pe_callSt C hr hg hx ha hdb he hpl).imp fun σ H Q q => ?_
  obtain ⟨env, L, R, rl, h, pq⟩ := q
  refine ⟨env, L, _, rl, h, fun ds L1 vs H1 q s1 g1 r1 => ?_⟩
  obtain ⟨hz, q⟩ := q
  refine ⟨[], vs, rfl, rfl, by rw [r1.len]; exact hz, fun b hb => ?_⟩
  refine ⟨[.tup ds], L1, R, RX, .one (rep_tup.mpr ⟨b, vs, rfl, SqT.of upd_same, r1.fr (.new hb)⟩), g1.new hb _, q, pq.fr (s1.trans (.new hb)), hE.fr (rl.fr.trans (s1.trans (.new hb)))⟩
end
end AL
namespace L2
open PySem PySem.Spec PyProof.Rows
section
variable {X : Cx}
end
end L2
namespace AL
open PySem PySem.Spec PyProof.Rows L2 LamX JW
section
variable {X : Cx} {c : AC X.K}
end
end AL
namespace AL
open PySem PySem.Spec PyProof.Rows L2 LamX JW
end AL
namespace AL
open PySem PySem.Spec PyProof.Rows L2 LamX JW
section
variable {X : Cx} {c : AC X.K}
end
end AL
namespace JW
open PySem PySem.Spec PyProof.Rows
section
variable {α : Type} [DecidableEq α]
end
theorem mem_prod_le {l : List T} (h : ∀ t ∈ l, Op t) {u : T} (hu : u ∈ l) : u.size ≤ (prodT l).size ∧ u.dep ≤ (prodT l).dep := by
  obtain ⟨a, c, e⟩ := List.append_of_mem hu
  rw [e] at h ⊢
  have p := part_le (a := a) (b := [u]) (c := c) (fun x hx => h x (by simp [hx])) (fun x hx => h x (by rw [List.mem_singleton.mp hx]; simp)) (fun x hx => h x (by simp [hx]))
  have e2 : a ++ [u] ++ c = a ++ u :: c := by simp
  rw [e2] at p
  exact p
end JW
namespace JW
open PySem PySem.Spec PyProof.Rows
end JW
namespace JW
open PySem PySem.Spec PyProof.Rows
end JW
namespace JW
open PySem PySem.Spec PyProof.Rows
end JW
namespace JW
open PySem PySem.Spec PyProof.Rows
end JW
namespace AL
open PySem PySem.Spec PyProof.Rows L2 LamX JW
end AL
namespace AL
open PySem PySem.Spec PyProof.Rows L2 LamX JW
section
variable {X : Cx} {c : AC X.K} {H0 : Hp} {e : Expr} {es : List Expr} {as : ATA} {x : Str} {p pos : Pos} {k : Nat} {asp : ASp}
end
end AL
namespace PySem
namespace JWX
open Builtin Builtin.ObjectAttr PySem.HandSPX
section
open PySem.W (Looks InitBack kdv_tup)
variable {prog : Program} {w : World} {A : Around} {R : Result → Shared → Prop} {hp : Heap} {gs : Array GenState} {dr : Drawn} {tk : Nat} {os : OsState}
variable {nm qn : Str} {C N : Addr} {bs bm bmB : List Value} {hd : Bool} {sn : List Str} {sub : List Value} {ab : Bool} {col : Option Bool} {dd : Option Addr} {k0 k1 k2 k3 k5 : Option Value} {B newId initId : String}
end
end JWX
end PySem
namespace JW
open PySem PySem.Spec PyProof.Rows L2
section
variable {P : Program} {w : World} {K : PySem.W.Frag} {mg : Str → Option Value} {base : Heap} {C : Addr} {x f : Str}
end
section
variable {X : Cx} {p pos : Pos} {x f : Str} {C fI : Addr} {k : Nat} {ps : List Str} {fd : FuncData} {e : Expr} {te : TE} {kws : List Keyword} {tk : TA} {pins : List (Addr × Obj)} {σ : L2.St} {H : Hp} {s : Shared} {Q : VK}
end
section
variable {X : Cx} {p pos : Pos} {x : Str} {C : Addr} {k : Nat} {ps : List Str}
end
end JW
namespace JW
open PySem PySem.Spec PyProof.Rows L2 AL
section
variable {X : Cx} {pins : List (Addr × Obj)} {σ : L2.St} {H : Hp} {s : Shared} {a C : Addr} {fs : List (Str × V)} {o : Expr} {te : TE} {pos : Pos} {f : Str}
end
section
variable {P : Program} {w : World} {K : PySem.W.Frag} {mg : Str → Option Value} {base : Heap} {CX : CXT} {C : Addr} {x n : Str}
end
end JW
namespace AL
open PySem PySem.Spec PyProof.Rows L2 LamX JW
section
variable {X : Cx} {c : AC X.K} {H0 H1 : Hp} {e o : Expr} {a : ATE} {x f : Str} {p pos kpos : Pos} {C : Addr} {k : Nat} {ps : List Str} {L : Store} {R : AQ} {Q : VK}
end
end AL
namespace AL
open PySem PySem.Spec PyProof.Rows L2 LamX JW
section
variable {X : Cx} {b : Expr} {tb : TE} {pos dp p1 p2 p3 p4 p5 p6 p7 p8 p9 : Pos} {j1 j2 j3 j4 j5 j6 j7}
end
section
variable {X : Cx} {c : AC X.K} {H0 : Hp} {i j : Nat} {x y : Str} {pos dp p1 p2 p3 p4 p5 p6 p7 p8 q1 q2 q3 : Pos} {j1 j2 j3 j4 j5 j6 j7}
end
end AL
namespace JW
open PySem PySem.Spec PyProof.Rows L2 LamX He
structure ClsO (K : PySem.W.Frag) (mg : Str → Option Value) (x : Str) : Prop where
  g : mg x = some (.ref (He.ga K x))
  c : Cls K (He.ga K x)
  hcl : PySem.W.findIn K (.ref (He.ga K x)) "__class__" = some (some (.builtin "object.__class__"))
  hgs : PySem.W.specialIn K (.builtin "object.__class__") "__get__" = some (some (.builtin "getset_descriptor.__get__"))
  htk : PySem.W.takesIn K (.builtin "object.__class__") = some true
  hmro : PySem.W.mroIn K (He.ga K x) (.type "object") = some true
  hne : PySem.W.findIn K (.ref (He.ga K x)) "__ne__" = some (some (.builtin "object.__ne__"))
  sf : PySem.W.selfFirst K (He.ga K x) = true
theorem clsO_of {K : PySem.W.Frag} {mg : Str → Option Value} {x : Str} (g : mg x = some (.ref (He.ga K x))) (c : Cls K (He.ga K x)) (h : clsX K x = true) : ClsO K mg x := by
  obtain ⟨h1, h2⟩ := ba h
  obtain ⟨h3, h4⟩ := ba h2
  obtain ⟨h5, h6⟩ := ba h4
  obtain ⟨h7, h8⟩ := ba h6
  obtain ⟨h9, h10⟩ := ba h8
  exact ⟨g, c, eqO_ok h1, eqO_ok h3, of_decide_eq_true h5, of_decide_eq_true h7, eqO_ok h9, h10⟩
end JW
namespace AL
open PySem PySem.Spec PyProof.Rows L2 LamX JW
section
variable {K : PySem.W.Frag} {c : AC K} {H : Hp}
end
section
variable {X : Cx} {c : AC X.K} {H0 : Hp} {e f : Expr} {a b : ATE} {pos p1 p2 dp : Pos} {j1 j2}
end
def aFldM (K : PySem.W.Frag) (f : Str) (a : ATE) : ATE := fun env L Q => a env L fun d L1 => ∃ p C ks ds v, d = .ref p ∧ L1 p = some (.ins C ks ds) ∧ Cls K C ∧ NoAttr K C f ∧ (ks.zip ds).lookup f = some v ∧ Q v L1
def asFldM (K : PySem.W.Frag) (f : Str) (a b : ATE) : ATS := fun D env L => b env L fun y L1 => a env L1 fun d L2 => ∃ p C ks ds, d = .ref p ∧ L2 p = some (.ins C ks ds) ∧ Cls K C ∧ NoAttr K C f ∧ (ks = [] ∨ ks = [f]) ∧ D.nx env (sput L2 p (.ins C [f] [y]))
def aMethM (K : PySem.W.Frag) (C : Addr) (m : Str) (asp : ASp) (a : ATE) (as : ATA) : ATE := fun env L Q => a env L fun d L1 => recv K C m d L1 ∧ as env L1 fun ds L2 => asp (d :: ds) L2 Q anyX
def aMakeM (C : Addr) (asp : ASp) (as : ATA) : ATE := fun env L Q => as env L fun ds L1 => ∀ x, L1 x = none → asp (.ref x :: ds) (sput L1 x (.ins C [] [])) (fun d L2 => d = .non ∧ Q (.ref x) L2) anyX
theorem zip_low {K : PySem.W.Frag} {c : AC K} {H : Hp} {f : Str} : ∀ {ks : List Str} {ds : List D} {vs : List V} {d : D}, RepL c H ds vs → (ks.zip ds).lookup f = some d → ∃ v, (ks.zip vs).lookup f = some v ∧ Rep c H d v
  | [], _, _, _, _, h => by cases h
  | _ :: _, [], _, _, _, h => by cases h
  | k :: ks, x :: ds, vs, d, r, h => by
    obtain ⟨v, ws, rfl, r1, r2⟩ := repL_cons.mp r
    rw [List.zip_cons_cons, List.lookup_cons] at h
    rw [List.zip_cons_cons, List.lookup_cons]
    cases hb : (f == k) with
    | true =>
      rw [hb] at h
      cases h
      exact ⟨v, rfl, r1⟩
    | false =>
      rw [hb] at h
      exact zip_low r2 h
section
variable {X : Cx} {c : AC X.K} {H0 : Hp} {e o value : Expr} {es : List Expr} {a b : ATE} {as : ATA} {f x m : Str} {p pos pos' apos : Pos} {k : Nat} {ps : List Str} {asp : ASp} {C : Addr}
theorem ae_fldM {K : PySem.W.Frag} (eK : X.K = K) (he : AE X c H0 e a) (hb : attributeBase e f X.env (eval e X.env) = eval e X.env) : AE X c H0 (.Attribute e f pos) (aFldM K f a) := by
  subst eK
  refine (pe_fld he hb).imp fun σ H Q ⟨env, L, R, rl, h, pq⟩ => ?_
  refine ⟨env, L, _, rl, h, fun d L1 x H1 q s1 g1 r1 => ?_⟩
  obtain ⟨p, C, ks, ds, v, rfl, e1, hc, hn, hl, q⟩ := q
  cases rep_ref.mp r1
  obtain ⟨dx, vs, e2, _, _, rs⟩ := g1.st _ _ e1
  obtain ⟨w, e3, rw'⟩ := zip_low rs hl
  exact ⟨p, C, dx, _, w, rfl, e2, hc, hn, e3, pq v L1 w H1 q s1 g1 rw'⟩
theorem as_fldM {K : PySem.W.Frag} (eK : X.K = K) (ha : AE X c H0 o a) (hv : AE X c H0 value b) (hs : swapsWith value (some (.Attribute o f pos')) pos.line X.env = pure false := by rfl) : AS X c H0 (.Assign [.Attribute o f pos'] value pos) (asFldM K f a b) := by
  subst eK
  refine (ps_fld ha hv hs).imp fun D σ H ⟨env, L, R, rl, h, er⟩ => ?_
  refine ⟨env, L, _, rl, h, fun y L1 v H1 q1 s1 g1 r1 => ⟨env, L1, _, rl.step s1 g1, q1, fun d L2 x H2 q2 s2 g2 r2 => ?_⟩⟩
  obtain ⟨p, C, ks, ds, rfl, e1, hc, hn, hk, q⟩ := q2
  cases rep_ref.mp r2
  obtain ⟨dx, vs, e2, ni, hl, rs⟩ := g2.st _ _ e1
  have ef : (ks.zip vs).length < 1000 ∧ putF f v (ks.zip vs) = [f].zip [v] := by
    rcases hk with rfl | rfl
    · exact ⟨by show (0 : Nat) < 1000; decide, rfl⟩
    · have hlv := rs.len
      rw [← hl] at hlv
      match vs, hlv with
      | [w], _ =>
        refine ⟨by show (1 : Nat) < 1000; decide, ?_⟩
        show putF f v [(f, w)] = [(f, v)]
        unfold putF
        simp
  have f3 : Fr c H2 (upd H2 p (.ins C dx (putF f v (ks.zip vs)))) := .put e2 ni
  obtain ⟨g3, _⟩ := g2.put (m' := .ins C [f] [y]) e1 (.ins C dx (putF f v (ks.zip vs))) ⟨dx, [v], by rw [upd_same, ef.2], ni, rfl, .one ((r1.fr s2).fr f3)⟩
  exact ⟨p, C, dx, _, rfl, e2, hc, hn, ef.1, er.nx env _ σ _ q ((s1.trans s2).trans f3) (rl.step ((s1.trans s2).trans f3) g3)⟩
theorem ae_meth0M {pl : Sem Bool} {K : PySem.W.Frag} (eK : X.K = K) (cl : Cls X.K C) (M : MethD X.prog X.w X.K X.mg X.base CX0 k C m ps [] (spA c asp)) (hr : Room k X.A) (he : AE X c H0 o a)
    (ht : eval (.Call (.Attribute o m apos) [] [] pos) X.env = (do
      let ov ← eval o X.env
      standAt apos.atName
      let (f, first) ← holding [ov] (getMethod ov m pl)
      callWith pos f first (backTo pos (starEach [] X.env)) (backToKw pos (keywordEach [] X.env))) := by rfl) : AE X c H0 (.Call (.Attribute o m apos) [] [] pos) (aMethM K C m asp a aNil) := by
  subst eK
  refine (pe_methD0 (E := fun _ _ _ => True) cl M hr pass0 he ht).imp fun σ H Q ⟨env, L, R, rl, h, pq⟩ => ?_
  refine ⟨env, L, _, rl, h, fun d L1 x H1 ⟨qr, q⟩ s1 g1 r1 => ?_⟩
  obtain ⟨p, dx, fs, rfl, e1, e2⟩ := recv_low r1 g1 qr
  exact ⟨p, dx, fs, rfl, e1, e2, [d], L1, R, anyX, .one r1, g1, q, pq.fr s1, px_any⟩
theorem ae_makeM (M : MakeD X.prog X.w X.K X.mg X.base CX0 k x C ps [] (spA c asp)) (hr : Room (k + 1) X.A) (hg : Gl X x) (ni : ¬ IC c C) (ha : AA X c H0 (e :: es) as) (hdb : (x == ("__debug__" : Str)) = false := by decide)
    (he : starEach (e :: es) X.env = (false, eval e X.env) :: starEach es X.env := by rfl) (hpl : (backTo pos (starEach es X.env)).any (·.1) = false := by rfl) : AE X c H0 (.Call (.Name x p) (e :: es) [] pos) (aMakeM C asp as) := by
  refine (pe_makeD (E := fun _ _ _ => True) M hr hg pass0 ha hdb he hpl).imp fun σ H Q ⟨env, L, R, rl, h, pq⟩ => ?_
  refine ⟨env, L, _, rl, h, fun ds L1 vs H1 q s1 g1 r1 x dx hx hdx ne => ?_⟩
  have f1 : Fr c H1 (upd H1 dx (.own x)) := .new hdx
  have hx2 : upd H1 dx (.own x) x = none := by rw [upd_ne (Ne.symm ne)]; exact hx
  have f2 : Fr c (upd H1 dx (.own x)) (upd (upd H1 dx (.own x)) x (.ins C dx [])) := .new hx2
  have g2 := (g1.new hdx (.own x)).alloc (m := .ins C [] []) hx2 (.ins C dx []) ⟨dx, [], upd_same, ni, rfl, RepL.nil⟩
  show spA c asp (V.ref x :: (vs ++ [])) _ _ _
  rw [List.append_nil]
  exact ⟨.ref x :: ds, _, _, anyX, .cons (rep_ref.mpr rfl) ((r1.fr f1).fr f2), g2, q x (g1.fresh hx), fun d L2 v H2 ⟨e1, q2⟩ s2 g2 r2 => ⟨by rw [e1] at r2; exact rep_non.mp r2, pq _ L2 _ H2 q2 (((s1.trans f1).trans f2).trans s2) g2 (rep_ref.mpr rfl)⟩, px_any⟩
end
section
variable {P : Program} {w : World} {K : PySem.W.Frag} {mg : Str → Option Value} {base : Heap} {c : AC K} {x m qual : Str} {st : Stmt} {N ps : List Str} {k : Nat} {asp : ASp} {C : Addr}
theorem _root_.JW.InitAt.okA {a : ATS} (D : InitAt K mg x C qual st [] ps) (S : FnScope N ps (defScope st)) (hl : ∀ ds L R RX, asp ds L R RX → ds.length = ps.length)
    (body : ∀ (f : Addr) (cdv : Value) (A : Around) (outer : List Env) (s : Shared) (H : Hp) (E : XK), Room k (A.deeper (envOfC qual (defScope st) s.heap.objs.size f cdv)) → ASs (cxOf CX0 P w K mg base N qual (defScope st) f cdv A outer s H E).nox c H (defBody st) a)
    (vc : ∀ ds L R RX, asp ds L R RX → a (fnEnds R) (startA N ds) L) : MakeD P w K mg base CX0 (k + 1) x C ps [] (spA c asp) :=
  D.ok 0 (Nat.zero_le _) S (spA_len hl) fun f cdv A outer s H vs Q E hr ⟨ds, L, R, RX, r, g, h, pq, px⟩ => ⟨_, body f cdv A outer s H E hr, body_low r g pq (vc ds L R RX h)⟩
theorem _root_.JW.PropAt.okA {a : ATS} (D : PropAt K C m qual st) (S : FnScope N ["self"] (defScope st)) (hl : ∀ ds L R RX, asp ds L R RX → ds.length = (["self"] : List Str).length)
    (body : ∀ (f : Addr) (cdv : Value) (A : Around) (outer : List Env) (s : Shared) (H : Hp) (E : XK), Room k (A.deeper (envOfC qual (defScope st) s.heap.objs.size f cdv)) → ASs (cxOf CX0 P w K mg base N qual (defScope st) f cdv A outer s H E).nox c H (defBody st) a)
    (vc : ∀ ds L R RX, asp ds L R RX → a (fnEnds R) (startA N ds) L) : PropD P w K mg base CX0 (k + 1) C m (spA c asp) :=
  D.ok S (spA_len hl) fun f cdv A outer s H vs Q E hr ⟨ds, L, R, RX, r, g, h, pq, px⟩ => ⟨_, body f cdv A outer s H E hr, body_low r g pq (vc ds L R RX h)⟩
end
end AL
namespace AL
open PySem PySem.Spec PyProof.Rows L2 LamX JW
end AL
namespace JW
def subP (i : Nat) (ps : List (List Nat × T)) : List (List Nat × T) := (ps.filter fun q => decide (q.1.head? = some i)).map fun q => (q.1.tail, q.2)
def NoPre (ps : List (List Nat × T)) : Prop := ps.Pairwise fun a b => ¬ a.1 <+: b.1 ∧ ¬ b.1 <+: a.1
theorem NoPre.sub {ps : List (List Nat × T)} (h : NoPre ps) (i : Nat) : NoPre (subP i ps) := by
  unfold NoPre subP
  rw [List.pairwise_map]
  have hd : ∀ q ∈ ps.filter (fun q => decide (q.1.head? = some i)), q.1 = i :: q.1.tail := fun q hq => by
    have h2 := of_decide_eq_true (List.mem_filter.mp hq).2
    cases e : q.1 with
    | nil => rw [e] at h2; cases h2
    | cons j r =>
      rw [e] at h2
      have : j = i := by simpa using h2
      rw [this]
      rfl
  refine (List.Pairwise.filter _ h).imp_of_mem fun {a b} ha hb ⟨h1, h2⟩ => ?_
  rw [hd a ha, hd b hb] at h1 h2
  exact ⟨fun z => h1 (List.cons_prefix_cons.mpr ⟨rfl, z⟩), fun z => h2 (List.cons_prefix_cons.mpr ⟨rfl, z⟩)⟩
theorem NoPre.ne {q : List Nat × T} {r : List (List Nat × T)} (h : NoPre (q :: r)) (hq : q.1 ≠ []) : ∀ p ∈ q :: r, p.1 ≠ [] := fun p hp => by
  rcases List.mem_cons.mp hp with e | e
  · rw [e]
    exact hq
  · intro z
    have := (List.pairwise_cons.mp h).1 p e
    exact this.2 (by rw [z]; exact List.nil_prefix)
theorem NoPre.one {q : List Nat × T} {r : List (List Nat × T)} (h : NoPre (q :: r)) (hq : q.1 = []) : r = [] := by
  cases r with
  | nil => rfl
  | cons p r =>
    have := (List.pairwise_cons.mp h).1 p List.mem_cons_self
    exact absurd (by rw [hq]; exact List.nil_prefix) this.1
def nested (p q : List Nat) : Prop := p.take (min p.length q.length) = q.take (min p.length q.length)
instance (p q : List Nat) : Decidable (nested p q) := inferInstanceAs (Decidable (_ = _))
end JW
namespace AL
open PySem PySem.Spec PyProof.Rows L2 LamX JW
section
variable {X : Cx} {c : AC X.K} {H0 : Hp} {e : Expr} {p pos tpos : Pos} {elts : List Expr} {kk i : Nat}
end
end AL
namespace AL
open PySem PySem.Spec PyProof.Rows L2 LamX JW
section
variable {prog : Program} {w : World} {A : Around} {E : Value → Shared → Prop} {s : Shared}
end
section
variable {prog : Program} {w : World} {A : Around} {E : Value → Shared → Prop} {s : Shared}
end
structure TurnX (P : Program) (w : World) (K : PySem.W.Frag) (tg : Expr) (J : It) (fp : List Addr) (it : Addr) (tn : Nat → Heap → Prop) : Prop where
  mem : it ∈ fp
  obj : ∀ i h, tn i h → ∀ b ∈ fp, ∃ o, h.get? b = some o ∧ ∀ v, o.data ≠ .cell v
  keep : ∀ i h h', tn i h → (∀ b ∈ fp, ∀ o, h.get? b = some o → h'.get? b = some o) → tn i h'
  item : ∀ (X : Cx), X.prog = P → X.w = w → X.K = K → ∀ (i : Nat) (pins : List (Addr × Obj)) (s : Shared) (σ : L2.St) (H : Hp) (E : Value → Shared → Prop), Inv X pins σ H s → (∀ b ∈ fp, FpOk X pins H b) → tn i s.heap → J.go i H →
    wpAny (model P w) X.A (pyNext (.ref it)) (fun r s1 => ∃ u, r = some u ∧ wpAny (model P w) X.A (letOwnedTupleGo tg (.ref it) u) (fun _ s2 => ∃ x H', Inv X pins σ H' s2 ∧ RelV x u ∧ J.yld i H x H' ∧ tn (i + 1) s2.heap ∧ ∀ b ∈ fp, H' b = none) E s1) E s
  done : ∀ (X : Cx), X.prog = P → X.w = w → X.K = K → ∀ (i : Nat) (pins : List (Addr × Obj)) (s : Shared) (σ : L2.St) (H : Hp) (E : Value → Shared → Prop) (x1 : Addr), HotX.HotAt X.A x1 s.heap → x1 ∉ fp → Inv X pins σ H s → (∀ b ∈ fp, FpOk X pins H b) → tn i s.heap → J.stop i H →
    wpAny (model P w) X.A (pyNext (.ref it)) (fun r s1 => r = none ∧ Inv X pins σ H s1) E s
  self : ∀ (A : Around) (i : Nat) (s : Shared) (Q : Value → Shared → Prop) (E : Value → Shared → Prop), tn i s.heap → Q (.ref it) s → wpAny (model P w) A (pyIter (.ref it)) Q E s
structure PIX (X : Cx) (tg iter : Expr) (wi : TI) : Prop where
  run : ∀ (pins : List (Addr × Obj)) (s : Shared) (σ : L2.St) (H : Hp) (R : It → Hp → Prop), Inv X pins σ H s → wi σ H R →
    wpAny (model X.prog X.w) X.A (eval iter X.env) (fun v s1 => wpAny (model X.prog X.w) X.A (pyIter v) (fun itv s2 => ∃ (it : Addr) (fp : List Addr) (tn : Nat → Heap → Prop) (J : It) (H' : Hp), itv = .ref it ∧ Inv X pins σ H' s2 ∧ TurnX X.prog X.w X.K tg J fp it tn ∧ tn 0 s2.heap ∧ (∀ b ∈ fp, FpOk X pins H' b) ∧ R J H') X.xe s1) X.xe s
theorem PIX.imp {X : Cx} {tg it : Expr} {t t' : TI} (h : PIX X tg it t) (k : ∀ σ H R, t' σ H R → t σ H R) : PIX X tg it t' := ⟨fun pins s σ H R I q => h.run pins s σ H R I (k σ H R q)⟩
section
variable {X : Cx} {c : AC X.K} {H0 : Hp} {tg e : Expr} {a : ATE}
end
section
variable {X : Cx} {c : AC X.K} {H1 : Hp} {a : Addr} {oe : Obj} {cls : Value} {d : Option Addr} {y : Str} {fs : List (Str × D)} {i : Nat} {n z f : Str} {p p1 p2 pos : Pos} {C : Addr}
end
abbrev AsE : Type := Str → List (Str × D) → Store → AQ → Prop
section
variable {P : Program} {w : World} {K : PySem.W.Frag} {mg : Str → Option Value} {base : Heap} {c : AC K} {x qual : Str} {st : Stmt} {N ps : List Str} {k : Nat} {asp : AsE}
end
section
variable {X : Cx} {c : AC X.K} {H1 : Hp} {a : Addr} {oe : Obj} {cls : Value} {d : Option Addr} {pn : List (Addr × Obj)} {y : Str} {fs : List (Str × D)} {i : Nat} {n x : Str} {p p1 pos : Pos} {k : Nat} {ps : List Str} {asp : AsE}
end
end AL
namespace AL
open PySem PySem.Spec PyProof.Rows L2 LamX JW
section
variable {X : Cx} {c : AC X.K} {H0 : Hp} {e f : Expr} {as : ATA} {p pos tpos : Pos} {elts : List Expr} {kk : Nat}
end
end AL
namespace JW
open PySem PySem.Spec PyProof.Rows L2 LamX
theorem ClsO.ty {K : PySem.W.Frag} {mg : Str → Option Value} {x : Str} (c : ClsO K mg x) {H : Hp} {a dx : Addr} {fs : List (Str × V)} (e : H a = some (.ins (He.ga K x) dx fs)) : TyX K H (.ref a) (.ref (He.ga K x)) := .base (.ins e c.c c.hcl c.hgs c.htk c.hmro)
theorem ClsO.hob {K : PySem.W.Frag} {mg : Str → Option Value} {x : Str} (c : ClsO K mg x) : PySem.W.subIn K (.ref (He.ga K x)) (.type "object") = some true := c.hmro
theorem isi_selfO {K : PySem.W.Frag} {C : Addr} : PySem.W.kitOne K (.ref C) (.ref C) = some true := by
  unfold PySem.W.kitOne
  exact if_pos (by simp)
theorem not_firstV {K : PySem.W.Frag} {C : Addr} {t : Value} (h : PySem.W.kitOne K t (.ref C) = some false) : PySem.W.notFirst K C t = true := by
  have h2 : PySem.W.kitCls K t (.ref C) = some false := by
    unfold PySem.W.kitOne at h
    split at h
    · cases h
    · exact h
  have h3 : PySem.W.subIn K t (.ref C) = some false := by
    have h2 : (if ((PySem.W.clsIn K C).isSome && PySem.W.typeIn K (.ref C) == some (.type "type")) = true then PySem.W.subIn K t (.ref C) else none) = some false := h2
    split at h2
    · exact h2
    · cases h2
  unfold PySem.W.notFirst
  rw [h3]
  simp
section
variable {X : Cx} {CX : CXT} {k : Nat} {C : Addr} {ps : List Str} {sp : Sp} {E : L2.St → XK}
theorem op_eqOwnV {tb : V → Hp → Prop} (htb : ∀ {y : V} {H : Hp} {pins : List (Addr × Obj)} {σ : L2.St} {s : Shared} {u : Value}, Inv X pins σ H s → RelV y u → tb y H → ∃ t : Value, PySem.W.Looks (model X.prog X.w) s.heap (typeOf u) t ∧ PySem.W.notFirst X.K C t = true)
    (M : MethD X.prog X.w X.K X.mg X.base CX k C "__eq__" ps [] sp) (hr : Room k X.A) {E : XK} (hx : Passes CX X E) :
    OpR X (compareOp .Eq) (fun x y H Q => ∃ a dx fs, x = .ref a ∧ H a = some (.ins C dx fs) ∧ tb y H ∧ sp [.ref a, y] H (fun v H' => ∃ b, v = .bl b ∧ Q (.bl b) H') E) := by
  intro pins s σ H x y v u Q I rx ry h
  obtain ⟨a, dx, fs, rfl, hA, hy, q⟩ := h
  cases rx
  obtain ⟨f, fd, ds, hm, hbd, hd, F⟩ := M.ex
  cases hd
  obtain ⟨mA, J, _⟩ := ins_get I.hok hA
  obtain ⟨od', J, _⟩ := J.look
  obtain ⟨m, hF⟩ := I.fr
  obtain ⟨T, hT, hn⟩ := htb I ry hy
  refine PySem.W.cmp_K (op := .Eq) (tb := T) hr.units0 hF I.ok.mod.kin J hT hn hm.at_ hm.fn ?_
  refine wpAny_mono (run_fn (us := [.ref a, u]) (vs := [.ref a, y]) F hr hbd .nil hx I (.cons rfl (.cons ry .nil)) q) (fun v s' z => ?_) fun _ _ z => z
  obtain ⟨v', H', I', r, b, rfl, q'⟩ := z
  exact relV_back r ⟨_, H', I', r, q'⟩
end
end JW
namespace AL
open PySem PySem.Spec PyProof.Rows L2 LamX JW
def othD (K : PySem.W.Frag) (C : Addr) (L : Store) : D → Prop
  | .ref q => ∃ ks ds, L q = some (.ins C ks ds)
  | .tree _ => PySem.W.kitOne K (.ref (cF K)) (.ref C) = some false
  | e => ∃ T, tyN L e = some T ∧ PySem.W.kitOne K (.type T) (.ref C) = some false
def eqMD (K : PySem.W.Frag) (C : Addr) (asp : ASp) : D → D → Store → AQ → Prop
  | .ref p, e, L, Q => (∃ ks ds, L p = some (.ins C ks ds)) ∧ othD K C L e ∧ asp [.ref p, e] L (fun z L' => blD z fun b => Q (.bl b) L') anyX
  | _, _, _, _ => False
def isiM (K : PySem.W.Frag) (C : Addr) : List D → Store → AQ → Prop
  | [d, .ref C'], L, Q => C' = C ∧ ((∃ q, d = .ref q ∧ (∃ ks ds, L q = some (.ins C ks ds)) ∧ Q (.bl true) L) ∨ (∃ t b, d = .tree t ∧ PySem.W.kitOne K (.ref (cF K)) (.ref C) = some b ∧ Q (.bl b) L) ∨ ∃ T b, tyN L d = some T ∧ PySem.W.kitOne K (.type T) (.ref C) = some b ∧ Q (.bl b) L)
  | _, _, _ => False
section
variable {X : Cx} {c : AC X.K} {k : Nat} {ps : List Str} {asp : ASp} {x : Str}
theorem aop_eqM {K : PySem.W.Frag} (eK : X.K = K) (cl : ClsF X.K X.mg) (M : MethD X.prog X.w X.K X.mg X.base CX0 k (He.ga X.K x) "__eq__" ps [] (spA c asp)) (hr : Room k X.A) : AOp X c (compareOp .Eq) (eqMD K (He.ga K x) asp) := by
  subst eK
  refine .mk' (op_eqOwnV (C := He.ga X.K x) (tb := fun y H => (∃ b D dy gs, y = .ref b ∧ H b = some (.ins D dy gs) ∧ PySem.W.notFirst X.K (He.ga X.K x) (.ref D) = true) ∨ ∃ T, TyX X.K H y (.type T) ∧ PySem.W.kitOne X.K (.type T) (.ref (He.ga X.K x)) = some false) (fun {y H pins σ s u} I r z => ?_) (E := fun _ _ _ => True) M hr pass0) fun v w H Q d e L R rx ry g h pq => ?_
  · rcases z with ⟨b, D, dy, gs, rfl, hb, hn⟩ | ⟨T, ty, e⟩
    · cases r
      obtain ⟨mB, J', _⟩ := ins_get I.hok hb
      obtain ⟨od', J', _⟩ := J'.look
      exact ⟨.ref D, J'.type, hn⟩
    · obtain ⟨P, Z, p, _⟩ := kit_of I r ty
      exact ⟨.type T, Z.ty _ _ I.kIn p, not_first e⟩
  · unfold eqMD at h
    split at h
    · rename_i p
      obtain ⟨⟨ks, ds, e1⟩, ho, h⟩ := h
      cases rep_ref.mp rx
      obtain ⟨dx, vs, e2, _⟩ := g.st _ _ e1
      refine ⟨p, dx, _, rfl, e2, ?_, _, L, _, anyX, .cons rx (.one ry), g, h, fun z L' v H' hz s g' rz => ?_, px_any⟩
      · unfold othD at ho
        split at ho
        · obtain ⟨ks, ds, e3⟩ := ho
          cases rep_ref.mp ry
          obtain ⟨dy, ws, e4, _⟩ := g.st _ _ e3
          exact .inl ⟨_, _, dy, _, rfl, e4, by simp [PySem.W.notFirst]⟩
        · obtain ⟨q, dy, gs, rfl, e4⟩ := ftn_ins (rep_tree.mp ry)
          exact .inl ⟨q, _, dy, gs, rfl, e4, not_firstV ho⟩
        · obtain ⟨T, e3, e4⟩ := ho
          exact .inr ⟨T, tyN_low ry g e3, e4⟩
      · obtain ⟨b, rfl, q⟩ := bl_low (R := fun b => R (.bl b) L') rz hz
        exact ⟨b, rfl, pq _ L' _ H' q s g' (rep_bl.mpr rfl)⟩
    · exact h.elim
theorem acb_isiM {K : PySem.W.Frag} (eK : X.K = K) (cl : ClsF X.K X.mg) (co : ClsO X.K X.mg x) : ACB X c (.builtin "isinstance") (isiM K (He.ga K x)) := by
  subst eK
  refine .mk' call_isi fun vs H Q ds L R r g h pq => ?_
  unfold isiM at h
  split at h
  · obtain ⟨rfl, h⟩ := h
    obtain ⟨v, w, rfl, r1, r2⟩ := repL_two r
    cases rep_ref.mp r2
    rcases h with ⟨q, rfl, ⟨ks, ds, e1⟩, h⟩ | ⟨t, b, rfl, e, h⟩ | ⟨T, b, e1, e, h⟩
    · cases rep_ref.mp r1
      obtain ⟨dx, vs, e2, _⟩ := g.st _ _ e1
      exact ⟨_, _, _, _, true, rfl, .own _, co.ty e2, isi_selfO, pq.here h g (rep_bl.mpr rfl)⟩
    · obtain ⟨a, dx, b, n, vs, rfl, ha, _⟩ := ftn_iff.mp (rep_tree.mp r1)
      exact ⟨_, _, _, _, _, rfl, .own _, cl.ty ha, e, pq.here h g (rep_bl.mpr rfl)⟩
    · exact ⟨_, _, _, _, _, rfl, .own _, tyN_low r1 g e1, e, pq.here h g (rep_bl.mpr rfl)⟩
  · exact h.elim
end
section
variable {X : Cx} {c : AC X.K}
end
end AL
namespace AL
open PySem PySem.Spec PyProof.Rows L2 LamX JW
section
variable {X : Cx} {rest : List MatchCase} {body : List Stmt} {tb : TS} {tr : V → TS} {k : Str} {j} {p q pos : Pos} {e : Expr} {te : TE}
end
section
variable {X : Cx} {c : AC X.K} {H0 : Hp}
end
end AL
namespace STx
open PySem PySem.Spec PyProof.Rows L2
def keyS (e : Int × Value) : Str := match e.2 with
  | .str k _ => k
  | _ => Str.empty
def Ent (w : World) (e : Int × Value) : Prop := ∃ k tk, e.2 = Value.str k tk ∧ e.1 = hashStr w k
def insS (l : List Str) (k : Str) : List Str := if k ∈ l then l else l ++ [k]
theorem insS_nd {l : List Str} (k : Str) (h : l.Nodup) : (insS l k).Nodup := by
  unfold insS
  split
  · exact h
  · rename_i hk
    exact List.nodup_append.mpr ⟨h, List.pairwise_singleton _ _, fun x hx y hy e => hk (by rw [← List.mem_singleton.mp hy, ← e]; exact hx)⟩
theorem insS_len (l : List Str) (k : Str) : (insS l k).length ≤ l.length + 1 := by
  unfold insS
  split
  · omega
  · rw [List.length_append]; exact Nat.le_refl _
theorem mem_insS {l : List Str} {k x : Str} : x ∈ insS l k ↔ x ∈ l ∨ x = k := by
  unfold insS
  split
  · rename_i h
    exact ⟨.inl, fun h2 => h2.elim id fun e => by rw [e]; exact h⟩
  · rw [List.mem_append, List.mem_singleton]
structure Tx (w : World) (es : Array (Int × Value)) (t : SetTable) (l : List Str) : Prop where
  ent : ∀ e ∈ es.toList, Ent w e
  prm : (es.toList.map keyS).Perm l
  nd : l.Nodup
  bd : es.size < scanBound
  fit : t.fits es.size = true
  ris : Ris t.place.toList
  led : w.params.followText "set-order" = true ∨ t.led = true
def SetTx (w : World) (h : Heap) (a : Addr) (l : List Str) : Prop := ∃ o es ep t, h.get? a = some o ∧ o.ExactSet ∧ o.data = .set es ep t ∧ Tx w es t l
section
variable {P : Program} {w : World} {h h' : Heap} {a : Addr} {l l' : List Str} {es es' : Array (Int × Value)} {t t' : SetTable}
theorem Tx.len (T : Tx w es t l) : es.size = l.length := by
  rw [← T.prm.length_eq, List.length_map, Array.length_toList]
theorem Tx.perm (T : Tx w es t l) (p : es'.toList.Perm es.toList) (hf : t'.fits es'.size = true) (hr : Ris t'.place.toList) (hl : w.params.followText "set-order" = true ∨ t'.led = true) : Tx w es' t' l where
  ent := fun e he => T.ent e (p.mem_iff.mp he)
  prm := (p.map keyS).trans T.prm
  nd := T.nd
  bd := by
    have e : es'.size = es.size := by rw [← Array.length_toList, p.length_eq, Array.length_toList]
    rw [e]; exact T.bd
  fit := hf
  ris := hr
  led := hl
theorem SetTx.at (R : SetTx w h a l) (k : ∀ o, h.get? a = some o → h'.get? a = some o) : SetTx w h' a l := by
  obtain ⟨o, es, ep, t, ho, r⟩ := R
  exact ⟨o, es, ep, t, k o ho, r⟩
theorem SetTx.perm (R : SetTx w h a l) (p : l.Perm l') : SetTx w h a l' := by
  obtain ⟨o, es, ep, t, ho, hx, hd, T⟩ := R
  exact ⟨o, es, ep, t, ho, hx, hd, T.ent, T.prm.trans p, p.nodup_iff.mp T.nd, T.bd, T.fit, T.ris, T.led⟩
theorem ent_elems {m : List (Int × Value)} (g : ∀ e ∈ m, Ent w e) : ElemsOf (PySem.strKind P w) m := fun e he => by
  obtain ⟨k, tk, h1, h2⟩ := g e he
  exact ⟨⟨k, by rw [h1]; exact strKind_is _ _ _ _, h2⟩, by rw [h1] <;> rfl⟩
theorem ent_is {e : Int × Value} (g : Ent w e) (k : Str) : (PySem.strKind P w).is k e.2 = true ↔ keyS e = k := by
  obtain ⟨k0, tk, h1, _⟩ := g
  unfold keyS
  rw [h1]
  show ((k0 == k) = true) ↔ k0 = k
  exact beq_iff_eq
end
section
variable {P : Program} {w : World} {A : Around} {E : Value → Shared → Prop} {s : Shared} {a b : Addr} {l l' : List Str}
theorem store_at {h : Heap} {o : Obj} {es es' : Array (Int × Value)} {ep : Nat} {t t' : SetTable} (ho : h.get? a = some o) (hd : o.data = .set es ep t) :
    (h.update a (Obj.putSet es' t')).get? a = some { o with data := .set es' (ep + 1) t' } := L2.store_at ho hd
theorem add_tail {g : Bool → Sem Unit} (hg : ∀ (b : Bool) (s₁ : Shared) (Q' : Unit → Shared → Prop), Q' () s₁ → wpAny (model P w) A (g b) Q' E s₁)
    {o : Obj} {es : Array (Int × Value)} {ep : Nat} {t : SetTable} (ho : s.heap.get? a = some o) (hex : o.ExactSet) (hd : o.data = .set es ep t)
    {es1 : Array (Int × Value)} {t2 : SetTable} (T : Tx w es1 t2 l') {wasDummy : Bool} {R : Option Bool → Shared → Prop}
    (hR : ∀ h', Heap.SameBut a s.heap h' → SetTx w h' a l' → R (some true) { s with heap := h' }) :
    wpAny (model P w) A (do
        storeSet a es1 t2
        if (!wasDummy && t2.tooFull) = true then do
            g (relayAll t2 es1 (SetTable.grown es1.size)).2.2
            storeSet a (relayAll t2 es1 (SetTable.grown es1.size)).1 (relayAll t2 es1 (SetTable.grown es1.size)).2.1
            pure (some true)
          else pure (some true)) R E s := by
  refine wpAny_bind (wpAny_storeSet_of ho hd ?_ (fits_of_scanBound T.bd))
  have ho1 := STx.store_at (es' := es1) (t' := t2) ho hd
  have sb1 := Heap.SameBut.update s.heap a (Obj.putSet es1 t2)
  split
  · have pm := relayAll_perm t2 es1 (SetTable.grown es1.size)
    have hf3 := relayAll_fits t2 es1 (SetTable.grown es1.size)
    have hr3 := relayAll_ris t2 es1 (SetTable.grown es1.size)
    have hl3 := relayAll_led t2 es1 (SetTable.grown es1.size)
    generalize relayAll t2 es1 (SetTable.grown es1.size) = Z at pm hf3 hr3 hl3 ⊢
    obtain ⟨es2, t3, gave⟩ := Z
    dsimp only at pm hf3 hr3 hl3 ⊢
    have T2 : Tx w es2 t3 l' := T.perm pm hf3 hr3 (T.led.imp id fun z => by rw [hl3]; exact z)
    refine wpAny_bind (hg _ _ _ ?_)
    refine wpAny_bind (wpAny_storeSet_of ho1 rfl ?_ (fits_of_scanBound T2.bd))
    have ho2 := STx.store_at (es' := es2) (t' := t3) ho1 rfl
    exact wpAny_pure (hR _ (sb1.trans (Heap.SameBut.update _ a _)) ⟨_, es2, _, t3, ho2, hex, rfl, T2⟩)
  · exact wpAny_pure (hR _ sb1 ⟨_, es1, _, t2, ho1, hex, rfl, T⟩)
theorem add_hashed {k : Str} {tk : Tok} {Q : Bool → Shared → Prop} (R : SetTx w s.heap a l) (room : l.length + 1 < scanBound)
    (hQ : ∀ b h', Heap.SameBut a s.heap h' → SetTx w h' a (insS l k) → Q b { s with heap := h' }) :
    wpAny (model P w) A (setAddHashed a (.str k tk) ((PySem.strKind P w).hash k)) Q E s := by
  obtain ⟨o, es, ep, t, ho, hex, hd, T⟩ := R
  have hkey : (PySem.strKind P w).is k (.str k tk) = true := strKind_is _ _ _ _
  have hsc : (Value.str k tk).scannable = true := rfl
  have hel : ElemsOf (PySem.strKind P w) es.toList := ent_elems T.ent
  have hmem : ∀ {j : Nat} (hj : j < es.toList.length), (PySem.strKind P w).is k (es.toList[j]).2 = true → k ∈ l := fun hj p => by
    refine T.prm.mem_iff.mp ?_
    rw [← (ent_is (P := P) (T.ent _ (List.getElem_mem hj)) k).mp p]
    exact List.mem_map.mpr ⟨_, List.getElem_mem hj, rfl⟩
  unfold setAddHashed setAddHashedIn
  refine wpAny_holding (wpAny_bind (wpAny_setState_of ho hd T.fit ?_))
  dsimp only
  rw [byScan_of hsc T.bd hel]
  simp only [↓reduceIte]
  unfold setAddByScan
  refine wpAny_bind ?_
  refine wpAny_bind (wpAny_rule ?_)
  refine wpAny_bind (wpAny_setScan_of (knd := PySem.strKind P w) hkey ho hd T.fit hel ?_)
  cases hfi : List.findIdx? (fun e => (PySem.strKind P w).is k e.2) es.toList with
  | some j =>
    dsimp only
    obtain ⟨hj, pj, _⟩ := List.findIdx?_eq_some_iff_getElem.mp hfi
    refine wpAny_pure (wpAny_pure ?_)
    refine hQ _ s.heap (Heap.SameBut.refl a s.heap) ?_
    have e : insS l k = l := if_pos (hmem hj pj)
    rw [e]
    exact ⟨o, es, ep, t, ho, hex, hd, T⟩
  | none =>
    dsimp only
    have hnk : k ∉ l := fun z => by
      obtain ⟨e, he, q⟩ := List.mem_map.mp (T.prm.mem_iff.mpr z)
      have c := List.findIdx?_eq_none_iff.mp hfi e he
      rw [(ent_is (P := P) (T.ent e he) k).mpr q] at c
      cases c
    have el : insS l k = l ++ [k] := if_neg hnk
    have hgw : ∀ (b : Bool) {s₁ : Shared} {Q' : Unit → Shared → Prop}, Q' () s₁ → wpAny (model P w) A (match b with | true => rule "set.scan.the-table-gave-way" | false => pure ()) Q' E s₁ :=
      fun b s₁ Q' q => by cases b <;> first | exact wpAny_pure q | exact wpAny_rule q
    have pm := layNew_perm t es ((PySem.strKind P w).hash k) (.str k tk)
    have hf1 := layNew_fits t es ((PySem.strKind P w).hash k) (.str k tk)
    have hr1 := layNew_ris t es ((PySem.strKind P w).hash k) (.str k tk) T.ris
    have hl1 := layNew_led t es ((PySem.strKind P w).hash k) (.str k tk)
    generalize layNew t es ((PySem.strKind P w).hash k) (.str k tk) = Z at pm hf1 hr1 hl1 ⊢
    obtain ⟨es1, t1, wasDummy, gave⟩ := Z
    dsimp only at pm hf1 hr1 hl1 ⊢
    rw [Array.toList_push] at pm
    have T1 : Tx w es1 t1 (insS l k) := by
      refine ⟨fun e he => ?_, ?_, insS_nd k T.nd, ?_, hf1, hr1, T.led.imp id fun z => by rw [hl1]; exact z⟩
      · rcases List.mem_append.mp (pm.mem_iff.mp he) with z | z
        · exact T.ent e z
        · rw [List.mem_singleton.mp z]; exact ⟨k, tk, rfl, rfl⟩
      · rw [el]
        refine (pm.map keyS).trans ?_
        rw [List.map_append]
        exact T.prm.append_right [k]
      · have e : es1.size = es.size + 1 := by rw [← Array.length_toList, pm.length_eq, List.length_append, Array.length_toList] <;> rfl
        rw [e, T.len]; exact room
    have T1off : ∀ t2 : SetTable, t2 = t1 ∨ t2 = { t1 with plain := false } → Tx w es1 t2 (insS l k) := fun t2 e => by
      rcases e with e | e
      · rw [e]; exact T1
      · rw [e]; exact ⟨T1.ent, T1.prm, T1.nd, T1.bd, SetTable.fits_plain_off hf1, T1.ris, T1.led⟩
    have fin : ∀ h', Heap.SameBut a s.heap h' → SetTx w h' a (insS l k) → Q true { s with heap := h' } := fun h' sb r => hQ true h' sb r
    refine wpAny_bind (hgw _ ?_)
    split
    · refine wpAny_bind ?_
      rw [hashByValue_scannable 8 hsc]
      refine wpAny_pure ?_
      refine add_tail ?_ ho hex hd (T1off _ ?_) ?_
      · intro b s₁ Q' q; cases b <;> first | exact wpAny_pure q | exact wpAny_rule q
      · first | (split <;> first | exact .inl rfl | exact .inr rfl) | exact .inl rfl | exact .inr rfl
      · intro h' sb r; dsimp only; exact wpAny_pure (fin h' sb r)
    · refine wpAny_bind (wpAny_pure ?_)
      simp only [↓reduceIte]
      refine add_tail ?_ ho hex hd T1 ?_
      · intro b s₁ Q' q; cases b <;> first | exact wpAny_pure q | exact wpAny_rule q
      · intro h' sb r; dsimp only; exact wpAny_pure (fin h' sb r)
theorem SetTx.typeIs (R : SetTx w s.heap a l) : s.TypeIs (.ref a) "set" := by
  obtain ⟨o, es, ep, t, ho, hex, hd, T⟩ := R
  exact ⟨o, ho, hex.1⟩
theorem add_call {k : Str} {tk : Tok} {Q : Value → Shared → Prop} (R : SetTx w s.heap a l) (room : l.length + 1 < scanBound)
    (hQ : ∀ h', Heap.SameBut a s.heap h' → SetTx w h' a (insS l k) → Q .none { s with heap := h', toks := s.toks + 1 }) :
    wpAny (model P w) A (call (.builtin "set.add") [.ref a, .str k tk]) Q E s := by
  refine wpAny_call_entry F.slot_set_add R.typeIs F.entry_set_add ?_ (F.args_set_add_2 _ _)
  unfold Builtin.«set.add» Builtin.Frozenset.oneOther
  simp only [List.isEmpty_nil, bind_assoc]
  unfold Builtin.Frozenset.addrOf setAdd
  refine wpAny_bind (wpAny_pure ?_)
  try dsimp only
  refine wpAny_bind (wpAny_pure ?_)
  try dsimp only
  refine wpAny_bind ?_
  refine wpAny_holding ?_
  refine wpAny_bind ((PySem.strKind P w).pyHash (strKind_is _ _ _ _) ?_)
  refine add_hashed (s := { s with toks := s.toks + 1 }) R room fun _ h' sb r => ?_
  show wpAny _ _ (ret Value.none) _ _ _
  exact wpAny_pure ⟨_, rfl, hQ h' sb r⟩
theorem set_fresh {h : Heap} (w : World) : SetTx w (h.push { cls := .type "set", dict := none, data := .set #[] 0 (.fresh 0 0 (!w.params.followText "set-order")) }) h.objs.size [] :=
  ⟨_, #[], 0, _, Heap.get?_push_size _ rfl, ⟨rfl, rfl, rfl⟩, rfl, fun e he => by simp at he, by simp, List.nodup_nil, by decide, by rfl, List.Pairwise.nil, by
    show _ ∨ (!w.params.followText "set-order") = true
    cases w.params.followText "set-order"
    · exact .inr rfl
    · exact .inl rfl⟩
end
end STx
namespace STx
open PySem PySem.Spec PyProof.Rows L2
def MaskA (m : Nat) : Prop := m ∈ [7, 15, 31, 63, 127]
def orb (m : Nat) : Nat → Nat → List Nat
  | 0, _ => []
  | n + 1, i => i :: orb m n ((i * 5 + 1) % (m + 1))
theorem orb_mem {m x : Nat} : ∀ (n a : Nat), x ∈ orb m n (lcgN m a) → ∃ b, b < a + n ∧ lcgN m b = x
  | 0, a, h => by cases h
  | n + 1, a, h => by
    rcases List.mem_cons.mp h with e | h
    · exact ⟨a, by omega, e.symm⟩
    · obtain ⟨b, h1, h2⟩ := orb_mem n (a + 1) h
      exact ⟨b, by omega, h2⟩
theorem maskA_orb : ∀ m ∈ [7, 15, 31, 63, 127], ((List.range (m + 1)).all fun j => (orb m (m + 1) 0).contains j) = true ∧ lcgN m (m + 1) = 0 := by decide +kernel
theorem lcg_allA {m : Nat} (hm : MaskA m) {j : Nat} (hj : j ≤ m) : ∃ b, b ≤ m ∧ lcgN m b = j := by
  have h := List.all_eq_true.mp (maskA_orb m hm).1 j (List.mem_range.mpr (Nat.lt_succ_of_le hj))
  obtain ⟨b, h1, h2⟩ := orb_mem (m + 1) 0 (List.contains_iff_mem.mp h)
  exact ⟨b, by omega, h2⟩
theorem lcgN_modA {m : Nat} (hm : MaskA m) : ∀ k, lcgN m (m + 1 + k) = lcgN m k
  | 0 => (maskA_orb m hm).2
  | k + 1 => by
    show (lcgN m (m + 1 + k) * 5 + 1) % (m + 1) = (lcgN m k * 5 + 1) % (m + 1)
    rw [lcgN_modA hm k]
theorem lcgI_allA {m : Nat} (hm : MaskA m) {i j : Nat} (hi : i ≤ m) (hj : j ≤ m) : ∃ k, k ≤ m ∧ lcgI m i k = j := by
  obtain ⟨x, hx, ex⟩ := lcg_allA hm hi
  obtain ⟨y, hy, ey⟩ := lcg_allA hm hj
  subst ex
  by_cases c : x ≤ y
  · refine ⟨y - x, by omega, ?_⟩
    rw [lcgN_add, show x + (y - x) = y by omega, ey]
  · refine ⟨m + 1 + y - x, by omega, ?_⟩
    rw [lcgN_add, show x + (m + 1 + y - x) = m + 1 + y by omega, lcgN_modA hm, ey]
theorem free_some {m : Nat} (hm : MaskA m) (owner : Array (Option Nat)) (h : Int) {j : Nat} (hj : j ≤ m) (hf : oAt owner j = none) :
    ∃ i, i ≤ m ∧ SetTable.layClean.free m owner (SetTable.turns m) (SetTable.bits h % (m + 1)) (SetTable.bits h) = some i ∧ oAt owner i = none := by
  obtain ⟨k, hk, e⟩ := lcgI_allA hm (runI_le m (SetTable.bits h) 12) hj
  have hn : 12 + k ≤ m + 12 := by omega
  have e1 : runI m (SetTable.bits h) (12 + k) = j := by rw [runI_tail (bits_lt h)]; exact e
  have hw : (nth m (runAt m (SetTable.bits h % (m + 1)) (SetTable.bits h)) (off m (SetTable.bits h % (m + 1)) (SetTable.bits h) (12 + k))).j = j := by
    rw [nth_off, itL_run]
    exact e1
  obtain ⟨K, k1, k2, k3⟩ := st_least (p := fun k => oAt owner (nth m (runAt m (SetTable.bits h % (m + 1)) (SetTable.bits h)) k).j = none) _ (by rw [hw]; exact hf)
  have hb := runEnd_bd (m := m) (i := SetTable.bits h % (m + 1)) (Nat.le_of_lt_succ (Nat.mod_lt _ (Nat.succ_pos _)))
  have hin := nth_in K (runAt m (SetTable.bits h % (m + 1)) (SetTable.bits h)) (show SetTable.bits h % (m + 1) + (SetTable.runEnd m (SetTable.bits h % (m + 1)) - SetTable.bits h % (m + 1)) ≤ m by omega)
  refine ⟨_, Nat.le_trans (Nat.le_add_right _ _) hin, free_spec m owner (SetTable.turns m) (12 + k) _ _ K (by unfold SetTable.turns; omega) k1 (fun k' hk' => ?_) ?_, k2⟩
  · cases z : oAt owner (nth m (runAt m (SetTable.bits h % (m + 1)) (SetTable.bits h)) k').j with
    | none => exact absurd z (k3 k' hk')
    | some _ => rfl
  · have q : oAt owner (nth m (runAt m (SetTable.bits h % (m + 1)) (SetTable.bits h)) K).j = none := k2
    rw [q] <;> rfl
structure Ow (m n : Nat) (owner : Array (Option Nat)) : Prop where
  sz : owner.size = m + 1
  all : ∀ k, k < n → ∃ j, j ≤ m ∧ oAt owner j = some k
  ps : ∃ ps : List Nat, ps.length = n ∧ ∀ j, j ≤ m → oAt owner j ≠ none → j ∈ ps
theorem Ow.step {m n : Nat} (hm : MaskA m) {owner : Array (Option Nat)} (W : Ow m n owner) (hl : n ≤ m) (h : Int) :
    ∃ j, SetTable.layClean.free m owner (SetTable.turns m) (SetTable.bits h % (m + 1)) (SetTable.bits h) = some j ∧ Ow m (n + 1) (owner.setIfInBounds j (some n)) := by
  obtain ⟨ps, hps, hin⟩ := W.ps
  obtain ⟨j0, h0, hn0⟩ := st_missing ps (m + 1) (by omega)
  have hj0 : oAt owner j0 = none := by
    cases z : oAt owner j0 with
    | none => rfl
    | some k => exact absurd (hin j0 (Nat.le_of_lt_succ h0) (by rw [z]; exact fun e => nomatch e)) hn0
  obtain ⟨i, hi, e1, e2⟩ := free_some hm owner h (Nat.le_of_lt_succ h0) hj0
  have hs : i < owner.size := by rw [W.sz]; exact Nat.lt_succ_of_le hi
  refine ⟨i, e1, by rw [Array.size_setIfInBounds]; exact W.sz, fun k hk => ?_, i :: ps, by rw [List.length_cons, hps], fun j hj e => ?_⟩
  · by_cases c : k = n
    · exact ⟨i, hi, by rw [oAt_set_self _ hs, c]⟩
    · obtain ⟨j, h1, h2⟩ := W.all k (by omega)
      refine ⟨j, h1, ?_⟩
      rw [oAt_set_ne _ fun z => by rw [z, e2] at h2; cases h2]
      exact h2
  · by_cases c : j = i
    · rw [c]; exact List.mem_cons_self
    · rw [oAt_set_ne _ c] at e
      exact List.mem_cons_of_mem _ (hin j hj e)
theorem fold_some {m : Nat} (hm : MaskA m) : ∀ (rest : List Int) (n : Nat) (owner : Array (Option Nat)), Ow m n owner → n + rest.length ≤ m →
    ∃ owner', rest.foldl (stepF m) (some (owner, n)) = some (owner', n + rest.length) ∧ Ow m (n + rest.length) owner'
  | [], n, owner, W, _ => ⟨owner, rfl, W⟩
  | h :: rest, n, owner, W, hl => by
    rw [List.length_cons] at hl
    obtain ⟨j, e, W'⟩ := W.step hm (by omega) h
    obtain ⟨owner', f, W2⟩ := fold_some hm rest (n + 1) _ W' (by omega)
    refine ⟨owner', ?_, ?_⟩
    · rw [List.foldl_cons, stepF_some e, f, List.length_cons, show n + 1 + rest.length = n + (rest.length + 1) by omega]
    · rw [List.length_cons, show n + (rest.length + 1) = n + 1 + rest.length by omega]; exact W2
theorem laid_some {m : Nat} (hm : MaskA m) (fg mv : Nat) (led plain : Bool) {hs : Array Int} (hn : hs.size ≤ m) :
    ∃ t' order, SetTable.laid m fg mv led plain hs = some (t', order) ∧ order.toList.Perm (List.range hs.size) ∧ t'.mask = m ∧ t'.led = led ∧ Ris t'.place.toList ∧ t'.fits hs.size = true := by
  obtain ⟨owner, f, W⟩ := fold_some hm hs.toList 0 (Array.replicate (m + 1) none)
    ⟨by simp, fun k hk => absurd hk (Nat.not_lt_zero _), [], rfl, fun j hj e => absurd (oAt_init hj) e⟩ (by rw [Array.length_toList]; omega)
  rw [Nat.zero_add] at f W
  have hc : SetTable.layClean m hs = some owner := by
    rw [layClean_eq, f] <;> rfl
  have hr : SetTable.laid m fg mv led plain hs = some ({ mask := m, place := ((liveOf m owner).map (·.1)).toArray, dummies := #[], finger := fg, led := led, moves := mv, plain := plain }, ((liveOf m owner).map (·.2)).toArray) := by
    show (SetTable.layClean m hs).bind _ = _
    rw [hc] <;> rfl
  have ris := ris_live (fun j => owner.getD j none) (List.range (m + 1)) (by
    unfold Ris
    first | exact List.pairwise_lt_range | exact List.pairwise_lt_range _)
  have r1 : Ris ((liveOf m owner).map (·.1)) := ris.1
  have nd : ((liveOf m owner).map (·.1)).Nodup := List.Pairwise.imp (fun h => Nat.ne_of_lt h) r1
  have hlen : (liveOf m owner).length = hs.size := by
    obtain ⟨ps, p1, p2⟩ := W.ps
    have x := nat_nodup_len ((liveOf m owner).map (·.1)) ps nd fun x hx => by
      obtain ⟨⟨y, k⟩, hq, eq1⟩ := List.mem_map.mp hx
      have ey : y = x := eq1
      subst ey
      obtain ⟨b1, b2⟩ := (mem_live W.sz).1 hq
      exact p2 y b1 (by rw [b2]; exact fun z => nomatch z)
    have y := nat_nodup_len (List.range hs.size) ((liveOf m owner).map (·.2)) List.nodup_range fun k hk => by
      obtain ⟨j, b1, b2⟩ := W.all k (by rw [Array.length_toList]; exact List.mem_range.mp hk)
      exact List.mem_map.mpr ⟨(j, k), (mem_live W.sz).2 ⟨b1, b2⟩, rfl⟩
    rw [List.length_map, p1] at x
    rw [List.length_map, List.length_range] at y
    have hz : hs.toList.length = hs.size := rfl
    omega
  refine ⟨_, _, hr, ?_, rfl, rfl, r1, ?_⟩
  · refine perm_range hs.size _ ?_ fun k hk => ?_
    · show ((liveOf m owner).map (·.2)).length = hs.size
      rw [List.length_map]
      exact hlen
    · obtain ⟨j, b1, b2⟩ := W.all k (by rw [Array.length_toList]; exact hk)
      exact List.mem_map.mpr ⟨(j, k), (mem_live W.sz).2 ⟨b1, b2⟩, rfl⟩
  · have e1 : ((liveOf m owner).map (·.1)).toArray.size = hs.size := by rw [List.size_toArray, List.length_map, hlen]
    unfold SetTable.fits SetTable.fill
    rw [Bool.and_eq_true, beq_iff_eq, decide_eq_true_eq]
    exact ⟨e1, by show ((liveOf m owner).map (·.1)).toArray.size + 0 ≤ m; rw [e1]; exact hn⟩
theorem sizes_ok : ∀ n ∈ List.range 127, SetTable.sizeAbove n - 1 ∈ [7, 15, 31, 63, 127] ∧ n ≤ SetTable.sizeAbove n - 1 ∧ SetTable.sizeAbove n ≤ 128 := by decide +kernel
theorem order_perm {es : Array (Int × Value)} {order : Array Nat} (hp : order.toList.Perm (List.range es.size)) : (order.filterMap (es[·]?)).toList.Perm es.toList := by
  have e : (List.range es.size).filterMap (fun i => es[i]?) = es.toList := by
    apply List.ext_getElem?
    intro i
    have key : ∀ l : List Nat, (∀ i ∈ l, i < es.size) → l.filterMap (fun i => es[i]?) = l.map fun i => es[i]?.getD (0, .none) := by
      intro l
      induction l with
      | nil => intro _; rfl
      | cons x l ih =>
        intro hl
        have hx := hl x List.mem_cons_self
        rw [List.filterMap_cons, Array.getElem?_eq_getElem hx, List.map_cons, Array.getElem?_eq_getElem hx, ih fun i hi => hl i (List.mem_cons_of_mem _ hi)]
        rfl
    have this := key (List.range es.size) fun i hi => List.mem_range.mp hi
    rw [this, List.getElem?_map]
    by_cases hi : i < es.size
    · rw [List.getElem?_range hi]; simp [hi]
    · rw [List.getElem?_eq_none (by rw [List.length_range]; omega)]; simp; omega
  have h2 := hp.filterMap (fun i => es[i]?)
  rw [e] at h2
  rw [Array.toList_filterMap]
  exact h2
end STx
namespace STx
open PySem PySem.Spec PyProof.Rows L2
section
variable {P : Program} {w : World} {A : Around} {E : Value → Shared → Prop} {s : Shared} {a b : Addr} {l l' : List Str}
variable {o : Obj} {es : Array (Int × Value)} {ep : Nat} {t : SetTable}
theorem relay_ok (ho : s.heap.get? a = some o) (hd : o.data = .set es ep t) (T : Tx w es t l) {wanted : Nat} (hw : wanted < 127) (hn : es.size ≤ wanted) {Q : Unit → Shared → Prop}
    (hQ : ∀ h' es' ep' t', Heap.SameBut a s.heap h' → h'.get? a = some { o with data := .set es' ep' t' } → Tx w es' t' l → MaskA t'.mask → wanted ≤ t'.mask → Q () { s with heap := h' }) : wpAny (model P w) A (setRelay a wanted) Q E s := by
  obtain ⟨z1, z2, z3⟩ := sizes_ok wanted (List.mem_range.mpr hw)
  obtain ⟨t', order, e, hp, em, el, hr, hf⟩ := laid_some z1 t.finger (t.movedTo (SetTable.sizeAbove wanted - 1)) t.led t.plain (hs := es.map (·.1)) (by rw [Array.size_map]; omega)
  have e' : t.relaid (es.map (·.1)) wanted = some (t', order) := e
  rw [Array.size_map] at hp hf
  have pm := order_perm hp
  have hs2 : (order.filterMap (es[·]?)).size = es.size := by rw [← Array.length_toList, pm.length_eq, Array.length_toList]
  rw [setRelay_eq]
  refine wpAny_bind (wpAny_setState_of ho hd T.fit ?_)
  dsimp only
  refine wp_if_neg (by rw [sizeLine_eq]; omega) ?_
  try refine wpAny_bind (wpAny_pure ?_)
  rw [e']
  dsimp only
  refine wpAny_bind ?_
  refine wp_if_neg (by rw [hs2]; simp) ?_
  try refine wpAny_bind (wpAny_pure ?_)
  refine wpAny_pure ?_
  dsimp only
  have T2 : Tx w (order.filterMap (es[·]?)) t' l := T.perm pm (by rw [hs2]; exact hf) hr (T.led.imp id fun z => by rw [el]; exact z)
  refine wpAny_storeSet_of ho hd ?_ (fits_of_scanBound T2.bd)
  exact hQ _ _ (ep + 1) t' (Heap.SameBut.update ..) (STx.store_at ho hd) T2 (by rw [em]; exact z1) (by rw [em]; exact z2)
theorem room_ok (ho : s.heap.get? a = some o) (hd : o.data = .set es ep t) (T : Tx w es t l) {more : Nat} (hw : es.size + more < 63) (h7 : es.size = 0 → t.mask = 7 ∧ t.fill = 0) {Q : Unit → Shared → Prop}
    (hQ : ∀ h' es' ep' t', Heap.SameBut a s.heap h' → h'.get? a = some { o with data := .set es' ep' t' } → Tx w es' t' l → (es.size = 0 → MaskA t'.mask ∧ more ≤ t'.mask) → Q () { s with heap := h' }) : wpAny (model P w) A (setRoomFor a more) Q E s := by
  unfold setRoomFor
  refine wpAny_bind (wpAny_setState_of ho hd T.fit ?_)
  dsimp only
  have hps : t.place.size = es.size := by
    have h := T.fit
    unfold SetTable.fits at h
    rw [Bool.and_eq_true, beq_iff_eq] at h
    exact h.1
  cases hr : t.roomFor more with
  | none =>
    dsimp only
    have hod : ({ o with data := .set es ep t } : Obj) = o := by rw [← hd]
    refine wpAny_pure (hQ s.heap es ep t (Heap.SameBut.refl a s.heap) (by rw [hod]; exact ho) T fun e0 => ?_)
    obtain ⟨e1, e2⟩ := h7 e0
    refine ⟨by rw [e1]; unfold MaskA; decide, ?_⟩
    unfold SetTable.roomFor at hr
    rw [e1, e2] at hr
    split at hr
    · cases hr
    · rw [e1]; omega
  | some wanted =>
    dsimp only
    have ew : wanted = (es.size + more) * 2 := by
      unfold SetTable.roomFor at hr
      split at hr
      · rw [hps] at hr; exact (Option.some.inj hr).symm
      · cases hr
    refine relay_ok ho hd T (by omega) (by omega) fun h' es' ep' t' sb g T' m1 m2 => hQ h' es' ep' t' sb g T' fun e0 => ⟨m1, by omega⟩
theorem quiet_ok {sets : List Addr} {Q : Bool → Shared → Prop} (hs : ∀ x ∈ sets, ∃ l, SetTx w s.heap x l) (h : Q true s) : wpAny (model P w) A (setsQuiet sets) Q E s := by
  unfold setsQuiet
  refine wpAny_bind (wpAny_forIn_list _ (fun rest b s' => b = ⟨none, ⟨⟩⟩ ∧ s' = s ∧ ∀ x ∈ rest, ∃ l, SetTx w s.heap x l) _ ?_ ?_ _ _ ⟨rfl, rfl, hs⟩)
  · rintro x rest b s' ⟨rfl, rfl, hx⟩
    obtain ⟨l, o, es, ep, t, ho, hex, hd, T⟩ := hx x List.mem_cons_self
    refine wpAny_bind (wpAny_setEntries_of ho hd T.fit ?_)
    refine wpAny_bind (MeetsSeq2.wpAny_forIn_array _ (fun rest b s'' => b = ⟨none, ⟨⟩⟩ ∧ s'' = s' ∧ ∀ e ∈ rest, Ent w e) _ ?_ ?_ _ _ ⟨rfl, rfl, T.ent⟩)
    · rintro ⟨hh, v⟩ rest2 b2 s2 ⟨rfl, rfl, he⟩
      obtain ⟨k, tk, h1, _⟩ := he _ List.mem_cons_self
      cases (show v = Value.str k tk from h1)
      exact wpAny_pure ⟨rfl, rfl, fun e he' => he e (List.mem_cons_of_mem _ he')⟩
    · rintro b2 s2 ⟨rfl, rfl, _⟩
      exact wpAny_pure ⟨rfl, rfl, fun y hy => hx y (List.mem_cons_of_mem _ hy)⟩
  · rintro b s' ⟨rfl, rfl, _⟩
    exact wpAny_pure h
theorem walk_ok {Q : Array (Int × Value) → Shared → Prop} (ho : s.heap.get? a = some o) (hd : o.data = .set es ep t) (T : Tx w es t l)
    (hQ : ∀ out d, out.toList.Perm es.toList → Q out { s with drawn := d }) : wpAny (model P w) A (setWalk a) Q E s := by
  unfold setWalk
  refine wpAny_bind (wpAny_setState_of ho hd T.fit ?_)
  dsimp only
  refine wpAny_bind (wpAny_byText ?_)
  cases hb : w.params.followText "set-order" with
  | true =>
    refine wp_if_pos rfl ?_
    exact wpAny_bind (wpAny_askSetting (wpAny_pure (hQ _ s.drawn (pick_perm _ es))))
  | false =>
    refine wp_if_neg Bool.false_ne_true ?_
    try refine wpAny_bind (wpAny_pure ?_)
    have hled : t.led = true := T.led.resolve_left (by rw [hb]; exact Bool.false_ne_true)
    cases hdr : (!t.plain && decide (es.size > 1)) with
    | true =>
      refine wp_if_pos hdr ?_
      refine wpAny_bind (drawOrder_at _ _ _ _ (by rw [Array.length_toList]; exact Nat.le_refl _) fun ys d hp => ?_)
      exact wpAny_pure (hQ _ d hp)
    | false =>
      refine wp_if_neg (by show ¬ ((!t.plain && decide (es.size > 1)) = true); rw [hdr]; exact Bool.false_ne_true) ?_
      try refine wpAny_bind (wpAny_pure ?_)
      refine wpAny_bind (wpAny_of_eq (a := ()) ?_ ?_)
      · show (if (!t.led && decide (es.size > 1)) = true then unsupported "set:maker-not-led" else pure ()) = pure ()
        rw [hled] <;> rfl
      · exact wpAny_pure (hQ es s.drawn (List.Perm.refl _))
end
end STx
namespace STx
open PySem PySem.Spec PyProof.Rows L2
section
variable {P : Program} {w : World} {A : Around} {E : Value → Shared → Prop} {s : Shared} {a b : Addr} {l l' : List Str}
variable {o : Obj} {es : Array (Int × Value)} {ep : Nat} {t : SetTable}
theorem unseen_ok {ob : Obj} {eb : Array (Int × Value)} {eb0 : Nat} {tb : SetTable} (hab : b ≠ a) (ho : s.heap.get? a = some o) (hex : o.ExactSet) (hd : o.data = .set es ep t) (T : Tx w es t l)
    (hob : s.heap.get? b = some ob) (hexb : ob.ExactSet) (hdb : ob.data = .set eb eb0 tb) (Tb : Tx w eb tb l') {Q : Array (Int × Value) → Shared → Prop}
    (hQ : ∀ out h' d, out.toList.Perm eb.toList → Heap.SameBut a s.heap h' → SetTx w h' a l → Q out { s with heap := h', drawn := d }) : wpAny (model P w) A (setWalkUnseen b [a] (some a)) Q E s := by
  have Ra : SetTx w s.heap a l := ⟨o, es, ep, t, ho, hex, hd, T⟩
  unfold setWalkUnseen
  refine wpAny_bind (wpAny_setState_of hob hdb Tb.fit ?_)
  dsimp only
  refine wpAny_bind (wpAny_byText ?_)
  by_cases hc : (w.params.followText "set-order" || (tb.led && tb.plain) || decide (eb.size ≤ 1)) = true
  · refine wp_if_pos hc ?_
    exact walk_ok hob hdb Tb fun out d pm => hQ out s.heap d pm (Heap.SameBut.refl a s.heap) Ra
  · refine wp_if_neg hc ?_
    try refine wpAny_bind (wpAny_pure ?_)
    have hbt : w.params.followText "set-order" = false := by
      cases z : w.params.followText "set-order" with
      | false => rfl
      | true => exact absurd (by rw [z] <;> rfl) hc
    refine wpAny_bind (quiet_ok (fun x hx => ?_) ?_)
    · rcases List.mem_cons.mp hx with e | e
      · exact ⟨l', ob, eb, eb0, tb, e ▸ hob, hexb, hdb, Tb⟩
      · exact ⟨l, (List.mem_singleton.mp e) ▸ Ra⟩
    · refine wp_if_neg (by simp) ?_
      try refine wpAny_bind (wpAny_pure ?_)
      refine wpAny_bind (wpAny_rule ?_)
      try dsimp only
      refine wpAny_bind (wpAny_setState_of ho hd T.fit ?_)
      dsimp only
      have hled : t.led = true := T.led.resolve_left (by rw [hbt]; exact Bool.false_ne_true)
      have hledb : tb.led = true := Tb.led.resolve_left (by rw [hbt]; exact Bool.false_ne_true)
      split
      · refine wpAny_bind (wpAny_storeSet_of ho hd ?_ (fits_of_scanBound T.bd))
        refine wpAny_pure (hQ eb _ s.drawn (List.Perm.refl _) (Heap.SameBut.update ..) ?_)
        exact ⟨_, es, _, _, STx.store_at ho hd, hex, rfl, T.ent, T.prm, T.nd, T.bd, T.fit, T.ris, .inr (by show (t.led && tb.led) = true; rw [hled, hledb] <;> rfl)⟩
      · try refine wpAny_bind (wpAny_pure ?_)
        exact wpAny_pure (hQ eb s.heap s.drawn (List.Perm.refl _) (Heap.SameBut.refl a s.heap) Ra)
theorem fold_perm {l m m' : List Str} (p : m.Perm m') (h : l.Nodup) : (m.foldl insS l).Perm (m'.foldl insS l) := by
  have key : ∀ (m l : List Str), l.Nodup → (m.foldl insS l).Nodup ∧ ∀ x, x ∈ m.foldl insS l ↔ x ∈ l ∨ x ∈ m := by
    intro m
    induction m with
    | nil => intro l h; exact ⟨h, fun x => by simp⟩
    | cons y m ih =>
      intro l h
      obtain ⟨h1, h2⟩ := ih (insS l y) (insS_nd y h)
      refine ⟨h1, fun x => ?_⟩
      rw [List.foldl_cons, h2, mem_insS, List.mem_cons, or_assoc]
  obtain ⟨a1, a2⟩ := key m l h
  obtain ⟨b1, b2⟩ := key m' l h
  exact (List.perm_ext_iff_of_nodup a1 b1).mpr fun x => by rw [a2, b2, p.mem_iff]
theorem fold_spec {l : List Str} (m : List Str) (h : l.Nodup) : (m.foldl insS l).Nodup ∧ (∀ x, x ∈ m.foldl insS l ↔ x ∈ l ∨ x ∈ m) ∧ (m.foldl insS l).length ≤ l.length + m.length := by
  induction m generalizing l with
  | nil => exact ⟨h, fun x => by simp, Nat.le_refl _⟩
  | cons y m ih =>
    obtain ⟨h1, h2, h3⟩ := ih (insS_nd y h)
    refine ⟨h1, fun x => ?_, ?_⟩
    · rw [List.foldl_cons, h2, mem_insS, List.mem_cons, or_assoc]
    · have := insS_len l y
      rw [List.foldl_cons, List.length_cons]
      omega
theorem fold_len : ∀ (m l : List Str), (m.foldl insS l).length ≤ l.length + m.length
  | [], l => Nat.le_refl _
  | y :: m, l => by
    have h1 := fold_len m (insS l y)
    have h2 := insS_len l y
    rw [List.foldl_cons, List.length_cons]
    omega
theorem fold_new {m : List Str} (h : m.Nodup) : (m.foldl insS []).Perm m := by
  obtain ⟨h1, h2, _⟩ := fold_spec m (l := []) List.nodup_nil
  exact (List.perm_ext_iff_of_nodup h1 h).mpr fun x => by rw [h2]; simp
theorem merge_ok {ob : Obj} {eb : Array (Int × Value)} {eb0 : Nat} {tb : SetTable} (hab : b ≠ a) (ho : s.heap.get? a = some o) (hex : o.ExactSet) (hd : o.data = .set es ep t) (T : Tx w es t l) (h7 : es.size = 0 → t.mask = 7 ∧ t.fill = 0)
    (hob : s.heap.get? b = some ob) (hexb : ob.ExactSet) (hdb : ob.data = .set eb eb0 tb) (Tb : Tx w eb tb l') (few : l.length + l'.length < 63) {each : Sem Unit}
    (heach : ∀ (s₁ : Shared) (Q' : Unit → Shared → Prop), s₁.heap.get? b = some ob → Q' () s₁ → wpAny (model P w) A each Q' E s₁) {Q : Unit → Shared → Prop}
    (hQ : ∀ h' d, Heap.SameBut a s.heap h' → (∃ o' es' ep' t', h'.get? a = some o' ∧ o'.ExactSet ∧ o'.data = .set es' ep' t' ∧ Tx w es' t' (l'.foldl insS l) ∧ (es'.size = 0 → t'.mask = 7 ∧ t'.fill = 0)) → Q () { s with heap := h', drawn := d }) : wpAny (model P w) A (setMerge a b each) Q E s := by
  have la := T.len
  have lb := Tb.len
  unfold setMerge
  refine wp_if_neg (by rw [beq_iff_eq]; exact fun e => hab e.symm) ?_
  try refine wpAny_bind (wpAny_pure ?_)
  refine wpAny_bind (wpAny_setState_of hob hdb Tb.fit ?_)
  dsimp only
  by_cases he : eb.isEmpty = true
  · refine wp_if_pos he ?_
    have e0 : l' = [] := by
      have : eb.size = 0 := by simpa [Array.isEmpty] using he
      rw [lb] at this
      exact List.length_eq_zero_iff.mp this
    subst e0
    exact wpAny_pure (hQ s.heap s.drawn (Heap.SameBut.refl a s.heap) ⟨o, es, ep, t, ho, hex, hd, T, h7⟩)
  · refine wp_if_neg he ?_
    try refine wpAny_bind (wpAny_pure ?_)
    have hnz : eb.size ≠ 0 := fun z => he (by simpa [Array.isEmpty] using z)
    refine wpAny_bind (room_ok ho hd T (by omega) h7 fun h1 es1 ep1 t1 sb1 ho1 T1 hm1 => ?_)
    have hob1 : h1.get? b = some ob := (sb1.2 b hab).trans hob
    have ls1 := T1.len
    refine wpAny_bind (wpAny_setState_of ho1 rfl T1.fit ?_)
    dsimp only
    have hps : t1.place.size = es1.size := by
      have h := T1.fit
      unfold SetTable.fits at h
      rw [Bool.and_eq_true, beq_iff_eq] at h
      exact h.1
    have nz : ∀ {es' : Array (Int × Value)} {t' : SetTable}, Tx w es' t' (l'.foldl insS l) → (es'.size = 0 → t'.mask = 7 ∧ t'.fill = 0) := fun T' z => by
      obtain ⟨_, hmem, _⟩ := fold_spec l' T.nd
      have e1 := T'.len
      rw [z] at e1
      have e2 := List.length_eq_zero_iff.mp e1.symm
      cases l' with
      | nil => exact absurd lb hnz
      | cons y r => exact absurd ((hmem y).mpr (.inr List.mem_cons_self)) (by rw [e2]; exact List.not_mem_nil)
    have empt : t1.fill = 0 → l = [] := fun z => by
      unfold SetTable.fill at z
      refine List.length_eq_zero_iff.mp ?_
      omega
    cases hroad : t1.road tb with
    | slotForSlot =>
      dsimp only
      have el : l = [] := empt (by
        unfold SetTable.road at hroad
        split at hroad
        · cases hroad
        · rename_i q; simpa using q)
      subst el
      refine wpAny_storeSet_of ho1 rfl ?_ (fits_of_scanBound Tb.bd)
      have T2 : ∀ led, (w.params.followText "set-order" = true ∨ led = true) → Tx w eb { tb with finger := t1.finger, led := led, moves := t1.moves, plain := t1.plain && tb.plain } (l'.foldl insS []) := fun led hl =>
        ⟨Tb.ent, Tb.prm.trans (fold_new Tb.nd).symm, (fold_spec l' List.nodup_nil).1, Tb.bd, Tb.fit, Tb.ris, hl⟩
      have hl : w.params.followText "set-order" = true ∨ (t1.led && tb.led) = true := by
        rcases T1.led with z | z
        · exact .inl z
        · rcases Tb.led with y | y
          · exact .inl y
          · exact .inr (by rw [z, y] <;> rfl)
      exact hQ _ s.drawn (sb1.trans (Heap.SameBut.update ..)) ⟨_, _, _, _, STx.store_at ho1 rfl, hex, rfl, T2 _ hl, nz (T2 _ hl)⟩
    | clean =>
      dsimp only
      have el : l = [] := empt (by
        unfold SetTable.road at hroad
        split at hroad
        · cases hroad
        · rename_i q; simpa using q)
      subst el
      obtain ⟨m1, m2⟩ := hm1 (by rw [la]; rfl)
      obtain ⟨t', order, e, hp, em, eld, hr, hf⟩ := laid_some m1 t1.finger t1.moves (t1.led && tb.led) (t1.plain && tb.plain) (hs := eb.map (·.1)) (by rw [Array.size_map]; exact m2)
      rw [Array.size_map] at hp hf
      have pm := order_perm hp
      have hs2 : (order.filterMap (eb[·]?)).size = eb.size := by rw [← Array.length_toList, pm.length_eq, Array.length_toList]
      rw [e]
      refine wpAny_bind (wpAny_of_eq (a := (order.filterMap (eb[·]?), t')) ?_ ?_)
      · show (if ((order.filterMap (eb[·]?)).size != eb.size) = true then _ else _) = _
        rw [hs2, if_neg (by simp)]
        try rfl
      · dsimp only
        have hl : w.params.followText "set-order" = true ∨ t'.led = true := by
          rcases T1.led with z | z
          · exact .inl z
          · rcases Tb.led with y | y
            · exact .inl y
            · exact .inr (by rw [eld, z, y] <;> rfl)
        have T2 : Tx w (order.filterMap (eb[·]?)) t' (l'.foldl insS []) := by
          have q := Tb.perm pm (by rw [hs2]; exact hf) hr hl
          exact ⟨q.ent, q.prm.trans (fold_new Tb.nd).symm, (fold_spec l' List.nodup_nil).1, q.bd, q.fit, q.ris, q.led⟩
        refine wpAny_storeSet_of ho1 rfl ?_ (fits_of_scanBound T2.bd)
        exact hQ _ s.drawn (sb1.trans (Heap.SameBut.update ..)) ⟨_, _, _, _, STx.store_at ho1 rfl, hex, rfl, T2, nz T2⟩
    | oneByOne =>
      dsimp only
      refine wpAny_bind (unseen_ok (o := { o with data := .set es1 ep1 t1 }) hab ho1 ⟨hex.1, hex.2.1, hex.2.2⟩ rfl T1 hob1 hexb hdb Tb fun out h2 d pm sb2 R2 => ?_)
      have ent : ∀ e ∈ out.toList, Ent w e := fun e he => Tb.ent e (pm.mem_iff.mp he)
      have pk : (out.toList.map keyS).Perm l' := (pm.map keyS).trans Tb.prm
      refine wpAny_bind (MeetsSeq2.wpAny_forIn_array _ (fun rest _ s' => (∀ e ∈ rest, Ent w e) ∧ ∃ (done : List Str) (h' : Heap), done ++ rest.map keyS = out.toList.map keyS ∧ s' = { s with heap := h', drawn := d } ∧ Heap.SameBut a s.heap h' ∧ SetTx w h' a (done.foldl insS l)) _ ?_ ?_ _ _
        ⟨ent, [], h2, rfl, rfl, sb1.trans sb2, R2⟩)
      · rintro ⟨hh, x⟩ rest u s' ⟨hent, done, h', ed, rfl, sb, R⟩
        obtain ⟨k, tk, h1, h3⟩ := hent _ List.mem_cons_self
        cases (show x = Value.str k tk from h1)
        cases (show hh = hashStr w k from h3)
        have hdl : done.length ≤ l'.length := by
          have := congrArg List.length ed
          rw [List.length_append, List.length_map, List.length_map, ← List.length_map (f := keyS), ← List.length_map (f := keyS) (as := out.toList), pk.length_eq] at this
          omega
        have hfl := (fold_spec done T.nd).2.2
        refine wpAny_bind (wpAny_holding (add_hashed (P := P) R (by unfold scanBound; omega) fun bb h3 sb3 R3 => ?_))
        have sb' : Heap.SameBut a s.heap h3 := sb.trans sb3
        have hob3 : h3.get? b = some ob := (sb'.2 b hab).trans hob
        refine wpAny_bind (heach _ _ hob3 ?_)
        refine wpAny_bind (wpAny_setState_of hob3 hdb Tb.fit ?_)
        dsimp only
        refine wp_if_neg (by simp) ?_
        try refine wpAny_bind (wpAny_pure ?_)
        refine wpAny_pure ⟨fun e he => hent e (List.mem_cons_of_mem _ he), done ++ [k], h3, ?_, rfl, sb', ?_⟩
        · rw [← ed, List.map_cons, List.append_assoc]; rfl
        · rw [List.foldl_append]; exact R3
      · rintro u s' ⟨_, done, h', ed, rfl, sb, R⟩
        rw [List.map_nil, List.append_nil] at ed
        subst ed
        obtain ⟨o', es', ep', t', g1, g2, g3, T'⟩ := R.perm (fold_perm pk T.nd)
        exact wpAny_pure (hQ h' d sb ⟨o', es', ep', t', g1, g2, g3, T', nz T'⟩)
end
end STx
namespace STx
open PySem PySem.Spec PyProof.Rows L2
section
variable {P : Program} {w : World} {A : Around} {E : Value → Shared → Prop} {s : Shared} {a b : Addr} {l l' : List Str}
theorem entry_or : entryFor table "set.__or__" = some Builtin.«frozenset.__or__» :=
  entryFor_alias (id' := "frozenset.__or__") (by kernel_rfl) rfl (by decide +kernel) (by kernel_rfl)
theorem anySet_ok {Q : Bool → Shared → Prop} (R : SetTx w s.heap a l) (h : Q true s) : wpAny (model P w) A (Builtin.Frozenset.isAnySet (.ref a)) Q E s := by
  unfold Builtin.Frozenset.isAnySet
  exact wpAny_bind (wpAny_isInstance (b := true) R.typeIs sub_set_self (wpAny_pure h))
theorem copy_ok {Q : Value → Shared → Prop} (R : SetTx w s.heap a l) (few : l.length < 63)
    (hQ : ∀ h' d, (∀ x o, s.heap.get? x = some o → h'.get? x = some o) → (∃ o' es' ep' t', h'.get? s.heap.objs.size = some o' ∧ o'.ExactSet ∧ o'.data = .set es' ep' t' ∧ Tx w es' t' (l.foldl insS []) ∧ (es'.size = 0 → t'.mask = 7 ∧ t'.fill = 0)) →
      Q (.ref s.heap.objs.size) { s with heap := h', drawn := d }) : wpAny (model P w) A (Builtin.Frozenset.copyOf a) Q E s := by
  obtain ⟨ob, eb, eb0, tb, hob, hexb, hdb, Tb⟩ := id R
  have hlt : a < s.heap.objs.size := Heap.lt_size hob
  unfold Builtin.Frozenset.copyOf
  refine wpAny_bind ?_
  unfold Builtin.Frozenset.baseOf
  refine wpAny_bind (wpAny_isInstance (b := true) R.typeIs sub_set_self ?_)
  refine wpAny_pure ?_
  refine wpAny_bind (PpSet.newSet_ok ?_)
  refine wpAny_bind (wpAny_pure ?_)
  have hold : ∀ x o, s.heap.get? x = some o → (s.heap.push { cls := .type "set", dict := none, data := .set #[] 0 (.fresh 0 0 (!w.params.followText "set-order")) }).get? x = some o := fun x o e => Heap.get?_push_of_some _ e
  obtain ⟨o0, es0, ep0, t0, g1, g2, g3, T0⟩ := set_fresh (h := s.heap) w
  have g0 : (s.heap.push { cls := .type "set", dict := none, data := .set #[] 0 (.fresh 0 0 (!w.params.followText "set-order")) }).get? s.heap.objs.size = some { cls := .type "set", dict := none, data := .set #[] 0 (.fresh 0 0 (!w.params.followText "set-order")) } := Heap.get?_push_size _ rfl
  rw [g0] at g1
  cases g1
  cases g3
  refine wpAny_bind (merge_ok (Nat.ne_of_lt hlt) g0 g2 rfl T0 (fun _ => ⟨rfl, rfl⟩) (hold _ _ hob) hexb hdb Tb (by show 0 + l.length < 63; omega) (fun s₁ Q' _ q => wpAny_pure q) fun h' d sb hh => ?_)
  exact wpAny_pure (hQ h' d (fun x o e => (sb.2 x (Nat.ne_of_lt (Heap.lt_size e))).trans (hold x o e)) hh)
theorem or_call {Q : Value → Shared → Prop} (R : SetTx w s.heap a l) (R' : SetTx w s.heap b l') (hab : a ≠ b) (few : l.length + l'.length < 63)
    (hQ : ∀ h' d, (∀ x o, s.heap.get? x = some o → h'.get? x = some o) → SetTx w h' s.heap.objs.size (l'.foldl insS l) → Q (.ref s.heap.objs.size) { s with heap := h', drawn := d }) :
    wpAny (model P w) A (call (.builtin "set.__or__") [.ref a, .ref b]) Q E s := by
  obtain ⟨ob, eb, eb0, tb, hob, hexb, hdb, Tb⟩ := id R'
  have hlt : b < s.heap.objs.size := Heap.lt_size hob
  obtain ⟨oa, _, _, _, hoa, _, _, Ta⟩ := id R
  refine wpAny_call_entry F.slot_set_or R.typeIs entry_or ?_ (F.args_set_or_2 _ _)
  unfold Builtin.«frozenset.__or__»
  refine wpAny_bind (m := Builtin.Frozenset.slot1 "__or__" _) (wpAny_of_eq (a := (Value.ref a, Value.ref b)) (by rfl) ?_)
  dsimp only
  refine wpAny_bind (wpAny_bind (anySet_ok R (anySet_ok R' ?_)))
  refine wp_if_neg (by simp) ?_
  try refine wpAny_bind (wpAny_pure ?_)
  try refine wpAny_bind (m := Builtin.Frozenset.addrOf (.ref a)) (wpAny_pure ?_)
  refine wpAny_bind ?_
  refine wpAny_bind (m := Builtin.Frozenset.copyOf a) (copy_ok R (by omega) fun h1 d1 k1 ⟨o1, es1, ep1, t1, ho1, hex1, hd1, T1, h7⟩ => ?_)
  have hob1 := k1 _ _ hob
  have hl1 : (l.foldl insS []).length = l.length := (fold_new Ta.nd).length_eq
  refine wp_if_pos (by simp; exact fun e => hab e.symm) ?_
  refine wpAny_bind (wpAny_pure ?_)
  refine wpAny_bind (wpAny_holding ?_)
  unfold Builtin.Frozenset.updateFrom
  refine wpAny_bind (anySet_ok (l := l') ⟨ob, eb, eb0, tb, hob1, hexb, hdb, Tb⟩ ?_)
  refine wp_if_pos rfl ?_
  refine wpAny_bind (m := Builtin.Frozenset.addrOf (.ref b)) (wpAny_pure ?_)
  unfold Builtin.Frozenset.merge
  refine wpAny_bind (wpAny_setEpoch_of hob1 hdb Tb.fit ?_)
  refine merge_ok (Nat.ne_of_lt hlt) ho1 hex1 hd1 T1 h7 hob1 hexb hdb Tb (by rw [hl1]; exact few) (fun s₁ Q' e q => ?_) fun h2 d2 sb ⟨o2, es2, ep2, t2, ho2, hex2, hd2, T2, _⟩ => ?_
  · unfold Builtin.Frozenset.unchanged
    refine wpAny_bind (wpAny_setEpoch_of e hdb Tb.fit ?_)
    refine wp_if_neg (by simp) ?_
    exact wpAny_pure q
  · have R2 : SetTx w h2 s.heap.objs.size (l'.foldl insS l) := by
      have p : (l'.foldl insS (l.foldl insS [])).Perm (l'.foldl insS l) := by
        obtain ⟨a1, a2, _⟩ := fold_spec l' (fold_spec l (l := []) List.nodup_nil).1
        obtain ⟨b1, b2, _⟩ := fold_spec l' Ta.nd
        exact (List.perm_ext_iff_of_nodup a1 b1).mpr fun x => by rw [a2, b2, (fold_new Ta.nd).mem_iff]
      exact SetTx.perm ⟨o2, es2, ep2, t2, ho2, hex2, hd2, T2⟩ p
    have q := hQ h2 d2 (fun x o e => (sb.2 x (Nat.ne_of_lt (Heap.lt_size e))).trans (k1 x o e)) R2
    exact wpAny_pure (wpAny_pure ⟨_, rfl, q⟩)
theorem or_op {Q : Value → Shared → Prop} (R : SetTx w s.heap a l) (R' : SetTx w s.heap b l') (hab : a ≠ b) (few : l.length + l'.length < 63)
    (hQ : ∀ h' d, (∀ x o, s.heap.get? x = some o → h'.get? x = some o) → SetTx w h' s.heap.objs.size (l'.foldl insS l) → Q (.ref s.heap.objs.size) { s with heap := h', drawn := d }) :
    wpAny (model P w) A (binaryOp .BitOr (.ref a) (.ref b)) Q E s :=
  wpAny_binaryOp_same (op := .BitOr) (T := "set") R.typeIs R'.typeIs F.fills_set_or F.slot_set_or (or_call R R' hab few fun h' d k r => ⟨nofun, hQ h' d k r⟩)
theorem strs_ofv : ∀ (vs : List Value), (∀ v ∈ vs, ∃ k tk, v = Value.str k tk) → ∃ ss, StrsAre vs ss ∧ ss = vs.map fun v => keyS (0, v)
  | [], _ => ⟨[], .nil, rfl⟩
  | v :: vs, h => by
    obtain ⟨k, tk, rfl⟩ := h v List.mem_cons_self
    obtain ⟨ss, h1, h2⟩ := strs_ofv vs fun u hu => h u (List.mem_cons_of_mem _ hu)
    exact ⟨k :: ss, .cons k tk h1, by rw [h2] <;> rfl⟩
theorem sorted_call {Q : Value → Shared → Prop} (R : SetTx w s.heap a l) (hh : A.handled = none)
    (hQ : ∀ s' p (out : Array Value) (c : Nat) (ss : List Str), (∀ b o, s.heap.get? b = some o → s'.heap.get? b = some o) → s'.gens = s.gens → s'.os = s.os → s.heap.objs.size ≤ p →
      s'.heap.get? p = some (seqObj "list" out c) → StrsAre out.toList ss → ss.Perm l → sortedS ss = true → Q (.ref p) s') :
    wpAny (model P w) A (call (.builtin "sorted") [.ref a]) Q E s := by
  obtain ⟨o, es, ep, t, ho, hex, hd, T⟩ := R
  refine Calls.call_function_entry kind_sorted plain_sorted entry_sorted (args_sorted1 _) ?_
  unfold Builtin.«sorted»
  refine wpAny_bind (m := checkCount "sorted" 1 1 _) (wpAny_pure ?_)
  refine wpAny_bind (collect_set (A := A.in1) hh ⟨o, ho, hex.1, hd⟩ T.fit T.bd T.ris T.led fun s1 vs k1 hz g1 o1 pm => ?_)
  have hvl : vs.length = es.size := by rw [pm.length_eq, List.length_map, Array.length_toList]
  have hL : vs.length ≤ sizeLine := by rw [hvl]; exact fits_of_scanBound T.bd
  obtain ⟨ss, hI, ess⟩ := strs_ofv vs fun v hv => by
    obtain ⟨e, he, q⟩ := List.mem_map.mp (pm.mem_iff.mp hv)
    obtain ⟨k, tk, h1, _⟩ := T.ent e he
    exact ⟨k, tk, by rw [← q]; exact h1⟩
  have ps : ss.Perm l := by
    rw [ess]
    refine (pm.map _).trans ?_
    rw [List.map_map]
    exact T.prm
  refine wpAny_bind (wpAny_newList ?_ hL)
  have hoL : (s1.heap.push (seqObj "list" vs.toArray 0)).get? s1.heap.objs.size = some (seqObj "list" vs.toArray 0) := Heap.get?_push_size _ rfl
  refine wpAny_bind (wpAny_holding (wpAny_call_entry slot_list_sort ⟨_, hoL, rfl⟩ entry_list_sort
    (list_sort_treeKAny strKind_oneLt hoL hI.keysOf (fun v₁ v₂ rest e => keyKind_strs (by rw [← e]; exact hI)) hL fun st' hp hs => ⟨_, rfl, ?_⟩) (args_list_sort _)))
  obtain ⟨ss', a1, a2, a3⟩ := sorted_out_str hI hp hs
  obtain ⟨c, hc⟩ := sortedHeap_at (vs := vs) (out := (arrOf st').map (·.2)) hoL
  refine wpAny_pure ⟨_, rfl, hQ _ s1.heap.objs.size _ c ss' (fun b u e => ?_) g1 o1 hz hc a1 (a2.trans ps) a3⟩
  have q := k1 b u e
  have hlt := Heap.lt_size q
  show (sortedHeap (s1.heap.push (seqObj "list" vs.toArray 0)) s1.heap.objs.size vs _).get? b = some u
  rw [sortedHeap_old (Nat.ne_of_lt hlt) (by rw [size_push']; exact Nat.lt_succ_of_lt hlt)]
  exact Heap.get?_push_of_some _ q
end
end STx
namespace STx
open PySem PySem.Spec PyProof.Rows L2
def SetO (w : World) (a : Addr) (l : List Str) : HO := .ext fun h => SetTx w h a l
theorem setO_new {w : World} {P : Program} {H : Hp} {h : Heap} {a : Addr} {l : List Str} (R : SetTx w h a l) : ObjOk P w H h a (SetO w a l) := by
  have ⟨o, _, _, _, ho, _⟩ := R
  exact ⟨R, ⟨o, ho⟩, fun h1 h2 p k => SetTx.at p k⟩
section
variable {X : Cx} {pins : List (Addr × Obj)} {σ : L2.St} {H : Hp} {s : Shared} {a D : Addr} {l : List Str}
theorem setO_get (I : Inv X pins σ H s) (ha : H a = some (SetO X.w a l)) : SetTx X.w s.heap a l := (I.hok a _ ha).1
theorem add_ok {E : Value → Shared → Prop} {z : Str} {tk : Tok} {Q : Value → Shared → Prop} (I : Inv X pins σ H s) (hD : H D = some (SetO X.w D l)) (room : l.length + 1 < scanBound)
    (h : ∀ s', Inv X pins σ (upd H D (SetO X.w D (insS l z))) s' → Q .none s') : wpAny (model X.prog X.w) X.A (call (.builtin "set.add") [.ref D, .str z tk]) Q E s := by
  refine add_call (setO_get I hD) room fun h' sb new => ?_
  have he : ∃ u, h'.get? D = some u := by
    have ⟨o, _, _, _, ho, _⟩ := new
    exact ⟨o, ho⟩
  exact h _ (I.write (e := D) (t' := s.toks + 1) (by rw [hD]; trivial) (.inl rfl) (fun b u hb hu => (sb.2 b hb).trans hu) he (setO_new new))
def tSx (w : World) (wi : TI) (g : TG) (tt : TT) (te : TE) (vs : List Nat) : TE := fun σ H Q => wi σ H fun J H1 => ∀ D, H1 D = none → ∃ W : Nat → Nat → Hp → Prop, (∃ m, W 0 m (upd H1 D (SetO w D []))) ∧ ∀ i m H, W i m H →
  (J.stop i H ∧ Q (.ref D) H) ∨ (J.go i H ∧ ∃ Nx : Hp → Prop, (∀ H', Nx H' → ∃ m', m' < m ∧ W (i + 1) m' H') ∧ ∀ x H', J.yld i H x H' → g x (wipe σ vs) H' fun σ2 H2 => wipe σ2 vs = wipe σ vs ∧ tt σ2 H2 fun b H3 =>
    if b = true then te σ2 H3 fun y H4 => ∃ (z : Str) (l : List Str), y = .str z ∧ H4 D = some (SetO w D l) ∧ l.length + 1 < scanBound ∧ ((∃ h, SetTx w h D l) → Nx (upd H4 D (SetO w D (insS l z)))) else Nx H3)
theorem pe_sx {elt tg iter : Expr} {ifs : List Expr} {scope : Scope} {own : List (Str × Nat)} {pos : Pos} {wi : TI} {g : TG} {tt : TT} {te : TE} (hc : X.calm = true) (hN : X.N.Nodup) (hi : PI X tg iter wi) (ok : BlkOk X.N X.env.scope scope own)
    (hg : ∀ (s : Shared) (H : Hp) (C : Addr) (cl : List (Str × Addr)) (fp : List Addr), PG (X.blk s H scope (compEnvC scope cl C X.env) fp) tg g) (ht : ∀ (s : Shared) (H : Hp) (C : Addr) (cl : List (Str × Addr)) (fp : List Addr), PTs (X.blk s H scope (compEnvC scope cl C X.env) fp) ifs tt)
    (he : ∀ (s : Shared) (H : Hp) (C : Addr) (cl : List (Str × Addr)) (fp : List Addr), PE (X.blk s H scope (compEnvC scope cl C X.env) fp) elt te) (hs : ∀ x, foldedSetIterable iter X.env x = pure x := by intro _; rfl) :
    PE X (.SetComp elt [⟨tg, iter, ifs, 0⟩] scope pos) (tSx X.w wi g tt te (own.map (·.2))) := by
  refine ⟨fun pins s σ H Q I h => ?_⟩
  rw [PpSet.eval_SetComp]
  have caps : ∀ y ∈ scope.names, y.2 = .free → ∃ c, X.env.cells.lookup y.1 = some c := fun y hy e => (ok.free y hy e).elim (fun k => I.ok.has _ (.inl k)) fun k => I.ok.has _ (.inr k)
  refine wpAny_comprehension_free (use := none) rfl hs (closure_ok caps) ok.kind (fun y hy e => by rw [ok.uniq y hy, e]) (thn (hi.run pins s σ H _ I h) fun xv s1 hx => thn hx fun itv s2 ⟨it, fp, tn, J, H2, e, I2, T, st2, f2, q⟩ => ?_)
  subst e
  refine PpSet.newSet_ok (newEnv_comp ?_)
  generalize hD : s2.heap.objs.size = D
  obtain ⟨W, ⟨m0, w0⟩, turn⟩ := q D (I2.hok.fresh (Nat.le_of_eq hD))
  generalize hs3 : ({ s2 with heap := s2.heap.push { cls := .type "set", dict := none, data := .set #[] 0 (.fresh 0 0 (!X.w.params.followText "set-order")) } } : Shared) = s3
  have h3 : s3.heap = s2.heap.push { cls := .type "set", dict := none, data := .set #[] 0 (.fresh 0 0 (!X.w.params.followText "set-order")) } := by rw [← hs3]
  have I3 : Inv X pins σ (upd H2 D (SetO X.w D [])) s3 := by
    rw [← hs3]
    refine I2.laid (t' := s2.toks) (fun b o e => Heap.get?_push_of_some _ e) (Nat.le_of_eq hD) ?_
    rw [← hD]
    exact setO_new (set_fresh X.w)
  have f3 : ∀ b ∈ fp, FpOk X pins (upd H2 D (SetO X.w D [])) b ∧ b < s3.heap.objs.size := fun b hb => by
    obtain ⟨o, e, _⟩ := T.obj _ _ st2 b hb
    have lt : b < s2.heap.objs.size := Heap.lt_size e
    exact ⟨⟨by rw [upd_ne (by rw [← hD]; exact Nat.ne_of_lt lt)]; exact (f2 b hb).1, (f2 b hb).2⟩, by rw [h3, Heap.size_push]; exact Nat.lt_succ_of_lt lt⟩
  have st3 : tn 0 s3.heap := T.keep _ _ _ st2 fun b _ o e => by rw [h3]; exact Heap.get?_push_of_some _ e
  have I4 := block_start I3 ok hN f3
  have pg := hg s3 (upd H2 D (SetO X.w D [])) s3.heap.objs.size (cellsFrom (s3.heap.objs.size + 1) scope.names (cloFrom X.env.cells scope.names [])) fp
  have pt := ht s3 (upd H2 D (SetO X.w D [])) s3.heap.objs.size (cellsFrom (s3.heap.objs.size + 1) scope.names (cloFrom X.env.cells scope.names [])) fp
  have pe := he s3 (upd H2 D (SetO X.w D [])) s3.heap.objs.size (cellsFrom (s3.heap.objs.size + 1) scope.names (cloFrom X.env.cells scope.names [])) fp
  show codeAny _ _ (.compStart (.SetComp elt [⟨tg, iter, ifs, 0⟩] scope pos) 0 (.ref it) (.ref D) (compEnvC scope (cellsFrom (s3.heap.objs.size + 1) scope.names (cloFrom X.env.cells scope.names [])) s3.heap.objs.size X.env)) (compPost (model X.prog X.w) X.A X.xe none (EP X pins σ Q) (.ref D) s3.heap.objs.size) { s3 with heap := pushCells (s3.heap.push { cls := .type "dict", data := .dict #[] }) scope.names }
  have nfp : ∀ b ∈ fp, (upd H2 D (SetO X.w D [])) b = none := fun b hb => (f3 b hb).1.1
  generalize hce : compEnvC scope (cellsFrom (s3.heap.objs.size + 1) scope.names (cloFrom X.env.cells scope.names [])) s3.heap.objs.size X.env = ce at I4 pg pt pe ⊢
  have cL : ce.locals = s3.heap.objs.size := by subst hce; rfl
  generalize hH3 : upd H2 D (SetO X.w D []) = H3 at I3 I4 pg pt pe w0 nfp f3
  generalize hs4 : ({ s3 with heap := pushCells (s3.heap.push { cls := .type "dict", data := .dict #[] }) scope.names } : Shared) = s4 at I4 ⊢
  have st4 : tn 0 s4.heap := T.keep _ _ _ st3 fun b _ o e => by rw [← hs4]; exact pushCells_keeps _ _ _ _ (Heap.get?_push_of_some _ e)
  have stat : ∀ {σ' : L2.St} {H' : Hp} {s' : Shared}, Inv (X.blk s3 H3 scope ce fp) [] σ' H' s' → (∀ b ∈ fp, H' b = none) → ∀ b ∈ fp, FpOk (X.blk s3 H3 scope ce fp) [] H' b := fun {σ' H' s'} J' hn b hb =>
    ⟨hn b hb, (J'.ok.exf b hb).1, J'.ok.exfs b hb, .inl hb, fun x c e => (J'.ok.exf b hb).2 x c e, fun p hp => absurd (show p ∈ ([] : List (Addr × Obj)) ++ [] from hp) List.not_mem_nil⟩
  have loop : codeAny (model X.prog X.w) X.A (.compLoop (.SetComp elt [⟨tg, iter, ifs, 0⟩] scope pos) 0 (.ref it) (.ref D) ce) (compPost (model X.prog X.w) X.A X.xe none (EP X pins σ Q) (.ref D) s3.heap.objs.size) s4 := by
    refine PpSet.compLoopS_any (fun n s' => ∃ i H', Inv (X.blk s3 H3 scope ce fp) [] (wipe σ (own.map (·.2))) H' s' ∧ tn i s'.heap ∧ (∀ b ∈ fp, H' b = none) ∧ W i n H') ?_ m0 ⟨0, H3, I4, st4, nfp, w0⟩
    rintro n s5 ⟨i, H5, I5, st5, n5, w5⟩
    rcases turn i n H5 w5 with ⟨stop, qq⟩ | ⟨go, Nx, hNx, step⟩
    · refine thnF (T.done (X.blk s3 H3 scope ce fp) rfl rfl rfl hc i [] s5 _ H5 (fun _ _ => False) I5 (stat I5 n5) st5 stop) fun r s6 ⟨hr, I6⟩ => ?_
      subst hr
      have I7 : Inv X pins σ H5 s6 := I3.call' (ch := fp) I6.os I6.base I6.hok I6.bare fun b hb => ⟨(f3 b hb).1.2.2.2.1, (f3 b hb).1.2.1, (f3 b hb).1.2.2.2.2.1, (f3 b hb).1.2.2.2.2.2⟩
      have nC : H5 s3.heap.objs.size = none := by
        rw [← cL]
        exact I6.free
      obtain ⟨m, hn, _⟩ := I6.loc
      have hn : s6.heap.Ns s3.heap.objs.size m := by
        rw [← cL]
        exact hn
      refine ⟨m, hn, fun h'' sb => ?_⟩
      obtain ⟨g0, g1, g2, g3, g4, g5⟩ := I3.fpOk (Nat.le_refl _) nC
      exact ⟨.ref D, H5, I7.turned (t' := s6.toks) (fun b o hb e => (sb.2 b hb).trans e) g0 g1 g3 g4 g5, rfl, qq⟩
    · refine thnF (T.item (X.blk s3 H3 scope ce fp) rfl rfl rfl hc i [] s5 _ H5 (fun _ _ => False) I5 (stat I5 n5) st5 go) fun r s6 ⟨u, hr, h6⟩ => ?_
      subst hr
      refine thnF h6 fun _ s7 ⟨x, H7, I7, r7, y7, st7, n7⟩ => ?_
      refine thnF (pg.run _ s7 _ H7 x u _ (I7.pinned (stat I7 n7) (T.obj _ _ st7)) r7 (step x H7 y7)) fun _ s8 ⟨σ8, H8, I8, hw8, q8⟩ => ?_
      refine thnF (pt.run _ s8 σ8 H8 _ I8 q8) fun b s9 ⟨H9, I9, q9⟩ => ?_
      have next : ∀ {s' : Shared} {H' : Hp}, Inv (X.blk s3 H3 scope ce fp) ([] ++ pinsAt fp s7.heap) σ8 H' s' → Nx H' → ∃ m, m < n ∧ ∃ i H', Inv (X.blk s3 H3 scope ce fp) [] (wipe σ (own.map (·.2))) H' s' ∧ tn i s'.heap ∧ (∀ b ∈ fp, H' b = none) ∧ W i m H' := fun {s' H'} J' nx => by
        obtain ⟨m', hm, w'⟩ := hNx H' nx
        have kept : ∀ b ∈ fp, ∀ o, s7.heap.get? b = some o → s'.heap.get? b = some o ∧ H' b = none := fun b hb o e =>
          let z := J'.pin (b, o) (List.mem_append_right _ (List.mem_append_right _ (mem_pinsAt hb e)))
          ⟨z.1, z.2.1⟩
        refine ⟨m', hm, i + 1, H', (J'.unpinned (pins := [])).weak (by rw [← hw8, wipe_length]) (fun j v e => ?_), T.keep _ _ _ st7 fun b hb o e => (kept b hb o e).1, fun b hb => ?_, w'⟩
        · rw [← hw8] at e
          exact (wipe_some e).1
        · obtain ⟨o, e, _⟩ := T.obj _ _ st7 b hb
          exact (kept b hb o e).2
      cases b with
      | false =>
        simp only [Bool.false_eq_true, if_false] at q9 ⊢
        exact next I9 q9
      | true =>
        simp only [if_true] at q9 ⊢
        refine thnF (pe.run _ s9 σ8 H9 _ I9 q9) fun z s10 ⟨yv, H10, I10, r10, zz, l0, ey, hD10, hz10, nx⟩ => ?_
        subst ey
        obtain ⟨tk, rfl⟩ := r10
        exact add_ok (X := X.blk s3 H3 scope ce fp) I10 hD10 hz10 fun s11 I11 => next I11 (nx ⟨_, setO_get (X := X.blk s3 H3 scope ce fp) I10 hD10⟩)
  exact PpSet.codeAny_compStart_set loop (T.self X.A 0 _ _ _ st4 loop)
def rOrS (w : World) : R2 := fun x y H Q => ∃ a b l l', x = V.ref a ∧ y = V.ref b ∧ H a = some (SetO w a l) ∧ H b = some (SetO w b l') ∧ a ≠ b ∧ l.length + l'.length < 63 ∧ ∀ p, H p = none → Q (.ref p) (upd H p (SetO w p (l'.foldl insS l)))
theorem op_orS : OpR X (binaryOp .BitOr) (rOrS X.w) := by
  intro pins s σ H x y v u Q I rx ry h
  obtain ⟨a, b, l, l', rfl, rfl, ha, hb, hab, few, q⟩ := h
  cases rx
  cases ry
  refine or_op (setO_get I ha) (setO_get I hb) hab few fun h' d k r => ?_
  have hn : H s.heap.objs.size = none := I.hok.fresh (Nat.le_refl _)
  have J : Inv X pins σ (upd H s.heap.objs.size (SetO X.w s.heap.objs.size (l'.foldl insS l))) { s with heap := h', gens := s.gens, drawn := d, toks := s.toks } :=
    I.call (ch := []) (Un.laid k (Nat.le_refl _) hn) (I.hok.laid k (Nat.le_refl _) (setO_new r)) I.bare (fun _ z => nomatch z)
  exact ⟨.ref _, _, J, rfl, q _ hn⟩
def rSortedX (w : World) : List V → Hp → VK → Prop := fun vs H Q => ∃ (a : Addr) (l : List Str), vs = [V.ref a] ∧ H a = some (SetO w a l) ∧ l.length ≤ 10000 ∧
  ∀ (ys : List Str) (p : Addr), ys.Perm l → sortedS ys = true → H p = none → Q (.ref p) (upd H p (.lst (ys.map V.str)))
theorem cr_sortedX (hc : X.calm = true) : CallR X (.builtin "sorted") (rSortedX X.w) := by
  intro pins s σ H vs us Q I r h
  obtain ⟨a, l, rfl, ha, hz, q⟩ := h
  rw [Vals.ref1 r]
  refine sorted_call (setO_get I ha) (I.ok.hd hc) fun s' p out c ss k g o hp hg hi hs hm => ?_
  have hlen : (ss.map V.str).length ≤ sizeLine := by rw [List.length_map, hs.length_eq, sizeLine_eq]; omega
  have hn : H p = none := I.hok.fresh hp
  have J : Inv X pins σ (upd H p (.lst (ss.map V.str))) { s with heap := s'.heap, gens := s'.gens, drawn := s'.drawn, toks := s'.toks } :=
    I.call (ch := []) (Un.laid k hp hn) (I.hok.laid k hp ⟨hlen, out.toList, c, vals_of_strs hi, hg⟩) (by rw [g]; exact I.bare) (fun _ z => nomatch z)
  have e : s' = { s with heap := s'.heap, gens := s'.gens, drawn := s'.drawn, toks := s'.toks } := by
    cases s'
    cases s
    cases o
    rfl
  rw [e]
  exact ⟨.ref p, _, J, rfl, q ss p hs hm hn⟩
end
end STx
namespace AL
open PySem PySem.Spec PyProof.Rows L2 LamX JW STx
structure Frs {K : PySem.W.Frag} (c : AC K) (H H' : Hp) : Prop where
  st : ∀ a o, H a = some o → Imm c o → (∀ φ, o ≠ .ext φ) → H' a = some o
  er : ∀ a C fs, ErrO H a C fs → ErrO H' a C fs
section
variable {K : PySem.W.Frag} {c : AC K} {H H1 H' : Hp}
mutual
theorem ftn_frs (s : Frs c H H') : ∀ (t : T) (v : V), Ftn (cF K) H t v → Ftn (cF K) H' t v
  | .jet, v, h => by
    have h2 : ∃ a dx b n, v = .ref a ∧ H a = some (.ins (cF K) dx (flds .jet b n)) ∧ H b = some (.tup []) ∧ H n = some (.tup (nums .jet)) := h
    obtain ⟨a, dx, b, n, ev, h1, h2, h3⟩ := h2
    exact ⟨a, dx, b, n, ev, s.st _ _ h1 (.inl rfl) nofun, s.st _ _ h2 trivial nofun, s.st _ _ h3 trivial nofun⟩
  | .bas l, v, h => by
    have h2 : ∃ a dx b n vs, v = .ref a ∧ H a = some (.ins (cF K) dx (flds (.bas l) b n)) ∧ H b = some (.tup vs) ∧ H n = some (.tup (nums (.bas l))) ∧ FtnL (cF K) H l vs := h
    obtain ⟨a, dx, b, n, vs, ev, h1, h2, h3, h4⟩ := h2
    exact ⟨a, dx, b, n, vs, ev, s.st _ _ h1 (.inl rfl) nofun, s.st _ _ h2 trivial nofun, s.st _ _ h3 trivial nofun, ftnL_frs s l vs h4⟩
theorem ftnL_frs (s : Frs c H H') : ∀ (l : List T) (vs : List V), FtnL (cF K) H l vs → FtnL (cF K) H' l vs
  | [], vs, h => h
  | t :: ts, vs, h => by
    have h2 : ∃ v r, vs = v :: r ∧ Ftn (cF K) H t v ∧ FtnL (cF K) H ts r := h
    obtain ⟨v, r, ev, h1, h2⟩ := h2
    exact ⟨v, r, ev, ftn_frs s t v h1, ftnL_frs s ts r h2⟩
end
theorem sqT_frs (s : Frs c H H') {a : Addr} {vs : List V} (h : SqT K H a vs) : SqT K H' a vs := by
  rcases h with (h | ⟨o, h⟩) | h
  · exact .inl (.inl (s.st _ _ h trivial nofun))
  · exact .inl (.inr ⟨o, s.st _ _ h trivial nofun⟩)
  · exact .inr h
mutual
theorem rep_frs (s : Frs c H H') : ∀ (d : D) (v : V), Rep c H d v → Rep c H' d v
  | .non, v, h => rep_non.mpr (rep_non.mp h)
  | .bl _, v, h => rep_bl.mpr (rep_bl.mp h)
  | .int _, v, h => rep_int.mpr (rep_int.mp h)
  | .str _, v, h => rep_str.mpr (rep_str.mp h)
  | .ref _, v, h => rep_ref.mpr (rep_ref.mp h)
  | .ty _, v, h => rep_ty.mpr (rep_ty.mp h)
  | .scr, v, h => rep_scr.mpr (rep_scr.mp h)
  | .tree t, v, h => rep_tree.mpr (ftn_frs s t v (rep_tree.mp h))
  | .tup l, v, h => by
    obtain ⟨a, vs, e, h1, h3⟩ := rep_tup.mp h
    exact rep_tup.mpr ⟨a, vs, e, sqT_frs s h1, repL_frs s l vs h3⟩
  | .obj C ks ds, v, h => by
    obtain ⟨a, dx, vs, e, h1, h4, h5, h3⟩ := rep_obj.mp h
    exact rep_obj.mpr ⟨a, dx, vs, e, s.st _ _ h1 h4 nofun, h4, h5, repL_frs s ds vs h3⟩
  | .err C ks ds, v, h => by
    obtain ⟨a, vs, e, h1, h5, h3⟩ := rep_err.mp h
    exact rep_err.mpr ⟨a, vs, e, s.er _ _ _ h1, h5, repL_frs s ds vs h3⟩
theorem repL_frs (s : Frs c H H') : ∀ (l : List D) (vs : List V), RepL c H l vs → RepL c H' l vs
  | [], vs, h => repL_nil.mpr (repL_nil.mp h)
  | d :: ds, vs, h => by
    obtain ⟨v, r, e, h1, h3⟩ := repL_cons.mp h
    exact repL_cons.mpr ⟨v, r, e, rep_frs s d v h1, repL_frs s ds r h3⟩
end
theorem MRep.frs {p : Addr} {m : MO} (h : MRep c H p m) (e : H' p = H p) (s : Frs c H H') : MRep c H' p m := by
  cases m with
  | lst l => obtain ⟨vs, e1, r⟩ := h; exact ⟨vs, e.trans e1, repL_frs s _ _ r⟩
  | dct l => obtain ⟨vs, e1, k, r⟩ := h; exact ⟨vs, e.trans e1, k, repL_frs s _ _ r⟩
  | ins C ks ds => obtain ⟨dx, vs, e1, n, k, r⟩ := h; exact ⟨dx, vs, e.trans e1, n, k, repL_frs s _ _ r⟩
  | lsq P => obtain ⟨vs, l, e1, r, q⟩ := h; exact ⟨vs, l, e.trans e1, repL_frs s _ _ r, q⟩
  | opq P => obtain ⟨o, e1, r⟩ := h; exact ⟨o, e.trans e1, r⟩
end
section
variable {K : PySem.W.Frag} {c : AC K} {H H1 H' : Hp} {L : Store} {D : Addr} {w : World} {l : List Str}
theorem Good.setx (g : Good c L H) (hD : H D = some (SetO w D l)) (hh : ∃ h, SetTx w h D l) (l' : List Str) : Good c L (upd H D (SetO w D l')) := by
  have hd : ∀ q o, H q = some o → (∀ φ, o ≠ .ext φ) → q ≠ D := fun q o h n e => by
    subst e
    rw [hD] at h
    exact n _ (Option.some.inj h).symm
  obtain ⟨hp, o, es, ep, t, ho, hex, hdt, _⟩ := hh
  have s : Frs c H (upd H D (SetO w D l')) := by
    refine ⟨fun a u e _ n => by rw [upd_ne (hd a u e n)]; exact e, fun a C fs e => ?_⟩
    obtain ⟨d, φ, e1, e2, e3⟩ := e
    refine ⟨d, φ, ?_, e2, ?_⟩
    · by_cases ha : a = D
      · subst ha
        rw [hD] at e1
        have ef : (fun h => SetTx w h a l) = φ := HO.ext.inj (Option.some.inj e1)
        obtain ⟨u, f1, f2, _⟩ := e2 hp (by rw [← ef]; exact ⟨o, es, ep, t, ho, hex, hdt, by assumption⟩)
        rw [ho] at f1
        cases f1
        rw [hex.1] at f2
        cases f2
      · rw [upd_ne ha]; exact e1
    · rcases e3 with e | ⟨dd, e, e4 | e4⟩
      · exact .inl e
      · exact .inr ⟨dd, e, .inl (by rw [upd_ne (hd _ _ e4 nofun)]; exact e4)⟩
      · refine .inr ⟨dd, e, .inr ?_⟩
        by_cases hq : dd = D
        · subst hq
          rw [hD] at e4
          have ef := HO.ext.inj (Option.some.inj e4)
          obtain ⟨mA, hN, _⟩ := (congrFun ef hp).mp ⟨o, es, ep, t, ho, hex, hdt, by assumption⟩
          obtain ⟨u1, u2, u3, u4, u5⟩ := hN
          rw [ho] at u4
          cases u4
          simp_all
        · rw [upd_ne hq]; exact e4
  refine ⟨fun p hp2 => ?_, fun q n e => ?_, fun a ns e => ?_⟩
  · obtain ⟨ps, h1, h2, h3⟩ := g.tabs p hp2
    refine ⟨ps, by rw [upd_ne (hd _ _ h1 nofun)]; exact h1, h2, fun pos cv hc => ?_⟩
    obtain ⟨k, e1, e2⟩ := h3 pos cv hc
    refine ⟨k, e1, ?_⟩
    by_cases hk : k = D
    · subst hk
      rw [hD] at e2
      have ef := HO.ext.inj (Option.some.inj e2)
      have z := congrFun ef hp
      obtain ⟨oc, vs, t2, g1, g2, _⟩ := z.mp ⟨o, es, ep, t, ho, hex, hdt, by assumption⟩
      rw [ho] at g1
      cases g1
      rw [hdt] at g2
      cases g2
    · rw [upd_ne hk]; exact e2
  · obtain ⟨u, e0, n0, n1, n2⟩ := (g.st q n e).at
    exact (g.st q n e).frs (upd_ne (hd q u e0 n2)) s
  · refine ⟨(g.scr a ns e).1, ?_⟩
    rcases (g.scr a ns e).2 with ⟨h1, h2⟩ | ⟨o', h⟩ | h
    · exact .inl ⟨by rw [upd_ne (hd _ _ h1 nofun)]; exact h1, h2⟩
    · exact .inr (.inl ⟨o', by rw [upd_ne (hd _ _ h nofun)]; exact h⟩)
    · exact .inr (.inr h)
end
def compS (g : ATG) (a : ATE) (G : Store → Prop) (env : En) (R : List Str → Store → Prop) : List D → List Str → Store → Prop
  | [], acc, L => G L ∧ R acc L
  | d :: ds, acc, L => G L ∧ g d env L fun env1 L1 => L1 = L ∧ a env1 L1 fun x L3 => ∃ z, x = .str z ∧ acc.length < 4000 ∧ compS g a G env R ds (insS acc z) L3
section
variable {X : Cx} {c : AC X.K} {H0 : Hp}
theorem low_sx {ai : ATI} {g : TG} {ag : ATG} {a : ATE} {vs : List Nat} (tg : TgOk c g ag vs) {σ : L2.St} {H : Hp} {Q : VK} {env : En} {L : Store} {R : List Str → Store → Prop} (rl : Rl c H0 σ H env L)
    (q : ai env L fun items G L1 => compS ag a G (wipeA env vs) R items [] L1)
    (k : ∀ l L' H' D, R l L' → Fr c H H' → Good c L' H' → (∀ p o, H p = some o → Imm c o → p ≠ D) → H' D = some (SetO X.w D l) → Q (.ref D) H') :
    tSx X.w (lowI c H0 ai) g tYes (lowE c H0 a) vs σ H Q := by
  refine ⟨env, L, _, rl, q, fun items G L1 J H1 q s1 g1 wa D hD => ?_⟩
  obtain ⟨GH, wk, hG⟩ := wa.ex
  have hGl : ∀ {ds : List AL.D} {acc : List Str} {L' : Store}, compS ag a G (wipeA env vs) R ds acc L' → G L' := fun {ds acc L'} z => by
    cases ds with
    | nil => exact z.1
    | cons d ds => exact z.1
  have hH : ∀ p o, H p = some o → Imm c o → p ≠ D := fun p o e i z => by
    subst z
    rw [s1 _ _ e i] at hD
    cases hD
  have fup : ∀ {H' : Hp} (o : HO), Fr c H1 H' → Fr c H1 (upd H' D o) := fun {H'} o f p u e i => by
    rw [upd_ne fun z => by subst z; rw [hD] at e; cases e]
    exact f p u e i
  refine ⟨fun i m H' => m = items.length - i ∧ i ≤ items.length ∧ Fr c H1 H' ∧ ∃ acc L', Good c L' H' ∧ H' D = some (SetO X.w D acc) ∧ compS ag a G (wipeA env vs) R (items.drop i) acc L',
    ⟨items.length, by simp, Nat.zero_le _, .new hD, [], L1, g1.new hD _, upd_same, q⟩, ?_⟩
  rintro i m H2 ⟨rfl, hi, f, acc, L', g', hs, z⟩
  have hgh := hG L' H2 f g' (hGl z)
  by_cases hlt : i < items.length
  · refine .inr ⟨wk.goes i H2 hlt hgh, fun H' => i + 1 ≤ items.length ∧ Fr c H1 H' ∧ ∃ acc L', Good c L' H' ∧ H' D = some (SetO X.w D acc) ∧ compS ag a G (wipeA env vs) R (items.drop (i + 1)) acc L', fun H' p' => ⟨items.length - (i + 1), by omega, rfl, p'.1, p'.2⟩, fun x H3 y => ?_⟩
    obtain ⟨s2, k2, d, e1, r⟩ := wk.yields i H2 x H3 hlt hgh y
    have e2 : items.drop i = d :: items.drop (i + 1) := by
      have hh := List.drop_eq_getElem_cons hlt
      rw [List.getElem?_eq_getElem hlt] at e1
      rw [hh, Option.some.inj e1]
    rw [e2] at z
    obtain ⟨_, z⟩ := z
    have er : EnvR c H3 (wipe σ vs) (wipeA env vs) := ((rl.env.fr s1).fr (f.trans s2)).wipe vs
    refine tg d x _ L' _ _ H3 _ r er z fun env1 σ1 ⟨_, h1⟩ h2 h3 => ⟨by rw [h3, wipe_idem], ?_⟩
    have fr3 : Fr c H0 H3 := (rl.fr.trans s1).trans (f.trans s2)
    show lowE c H0 a σ1 H3 _
    refine ⟨env1, L', _, ⟨h2, k2 _ g', fr3⟩, h1, fun y L3 v H5 ⟨zz, ey, hz, hc⟩ s5 g5 r5 => ?_⟩
    subst ey
    cases rep_str.mp r5
    have hs5 : H5 D = some (SetO X.w D acc) := s5 _ _ (s2 _ _ hs trivial) trivial
    exact ⟨zz, acc, rfl, hs5, by unfold scanBound; omega, fun hh => ⟨hlt, fup _ ((f.trans s2).trans s5), _, L3, g5.setx hs5 hh _, upd_same, hc⟩⟩
  · have e : i = items.length := by omega
    subst e
    rw [List.drop_length] at z
    exact .inl ⟨wk.stops H2 hgh, k acc L' H2 D z.2 (s1.trans f) g' hH hs⟩
def aSU (ai : ATI) (ag : ATG) (a : ATE) (vs : List Nat) (ai' : ATI) (ag' : ATG) (a' : ATE) (vs' : List Nat) : ATE := fun env L Q => ai env L fun it G L1 => compS ag a G (wipeA env vs) (fun l L2 =>
  ai' env L2 fun it' G' L3 => compS ag' a' G' (wipeA env vs') (fun l' L4 => l.length + l'.length < 63 ∧ ∀ (ys : List Str) (p : Addr), ys.Perm (l'.foldl insS l) → sortedS ys = true → L4 p = none → Q (.ref p) (sput L4 p (.lst (ys.map D.str)))) it' [] L3) it [] L1
theorem ae_su {elt tg iter elt' tg' iter' : Expr} {scope scope' : Scope} {own own' : List (Str × Nat)} {pos pos' p p2 p3 : Pos} {ai ai' : ATI} {g g' : TG} {ag ag' : ATG} {a a' : ATE} (hc : X.calm = true) (hN : X.N.Nodup) (hgl : Gl X "sorted") (hm : X.mg "sorted" = none)
    (hi : AI X c H0 tg iter ai) (ok : BlkOk X.N X.env.scope scope own) (hk : TgOk c g ag (own.map (·.2)))
    (hg : ∀ (s : Shared) (H : Hp) (C : Addr) (cl : List (Str × Addr)) (fp : List Addr), PG (X.blk s H scope (compEnvC scope cl C X.env) fp) tg g)
    (he : ∀ (s : Shared) (H : Hp) (C : Addr) (cl : List (Str × Addr)) (fp : List Addr), AE (X.blk s H scope (compEnvC scope cl C X.env) fp) c H0 elt a)
    (hi' : AI X c H0 tg' iter' ai') (ok' : BlkOk X.N X.env.scope scope' own') (hk' : TgOk c g' ag' (own'.map (·.2)))
    (hg' : ∀ (s : Shared) (H : Hp) (C : Addr) (cl : List (Str × Addr)) (fp : List Addr), PG (X.blk s H scope' (compEnvC scope' cl C X.env) fp) tg' g')
    (he' : ∀ (s : Shared) (H : Hp) (C : Addr) (cl : List (Str × Addr)) (fp : List Addr), AE (X.blk s H scope' (compEnvC scope' cl C X.env) fp) c H0 elt' a')
    (hs : ∀ x, foldedSetIterable iter X.env x = pure x := by intro _; rfl) (hs' : ∀ x, foldedSetIterable iter' X.env x = pure x := by intro _; rfl)
    (na : starEach [Expr.BinOp (.SetComp elt [⟨tg, iter, [], 0⟩] scope pos) .BitOr (.SetComp elt' [⟨tg', iter', [], 0⟩] scope' pos') p] X.env = (false, eval (Expr.BinOp (.SetComp elt [⟨tg, iter, [], 0⟩] scope pos) .BitOr (.SetComp elt' [⟨tg', iter', [], 0⟩] scope' pos') p) X.env) :: starEach [] X.env := by rfl) :
    AE X c H0 (.Call (.Name "sorted" p2) [.BinOp (.SetComp elt [⟨tg, iter, [], 0⟩] scope pos) .BitOr (.SetComp elt' [⟨tg', iter', [], 0⟩] scope' pos') p] [] p3) (aSU ai ag a (own.map (·.2)) ai' ag' a' (own'.map (·.2))) := by
  refine (pe_callB (cr_sortedX hc) hgl hm rfl (pa_cons (pe_op op_orS (pe_sx (te := lowE (K := X.K) c H0 a) hc hN hi ok hg (fun _ _ _ _ _ => pts_nil) he hs) (pe_sx (te := lowE (K := X.K) c H0 a') hc hN hi' ok' hg' (fun _ _ _ _ _ => pts_nil) he' hs')) pa_nil na) (he := na)).imp fun σ H Q ⟨env, L, R, rl, h, pq⟩ => ?_
  show tSx X.w (lowI c H0 ai) g tYes (lowE c H0 a) (own.map (·.2)) σ H fun x H1 => tSx X.w (lowI c H0 ai') g' tYes (lowE c H0 a') (own'.map (·.2)) σ H1 fun y H2 => rOrS X.w x y H2 fun z H3 => rSortedX X.w [z] H3 Q
  refine low_sx hk rl h fun l L1 H1 D1 h1 s1 g1 _ d1 => ?_
  refine low_sx hk' (rl.step s1 g1) h1 fun l' L2 H2 D2 ⟨few, h2⟩ s2 g2 n2 d2 => ?_
  refine ⟨D1, D2, l, l', rfl, rfl, s2 _ _ d1 trivial, d2, n2 _ _ d1 trivial, few, fun p hp => ?_⟩
  refine ⟨p, l'.foldl insS l, rfl, upd_same, ?_, fun ys r y1 y2 hr => ?_⟩
  · have := fold_len l' l
    omega
  · have g3 := g2.new hp (SetO X.w p (l'.foldl insS l))
    have s3 : Fr c H2 (upd H2 p (SetO X.w p (l'.foldl insS l))) := .new hp
    exact ((pq.fr (s1.trans s2)).fr s3).alloc hr (h2 ys r y1 y2 (g3.fresh hr)) g3 ⟨_, upd_same, RepL.strs.mpr rfl⟩
end
end AL
namespace PySem.W
open Lean Elab Tactic Meta PySem PySem.Calls PyProof.Rows
section
variable {prog : Program} {w : World} {A : Around} {E : Value → Shared → Prop} {s : Shared} {K : Frag} {x y C C' L f f' : Addr} {h₀ : Heap} {m : Str → Option Value} {ox oy : Obj} {od od' : Option Obj}
theorem own_two {op : Operator} {rc rc' : Option Value} {Q : Value → Shared → Prop} (F : Fr h₀ L s.heap m) (X₀ : K.In h₀) (I : InstAt s.heap x ox C od) (I' : InstAt s.heap y oy C' od') (hne : C ≠ C') (hc : selfFirst K C = true) (hc' : selfFirst K C' = true)
    (hs : findIn K (.ref C) (PySem.dunder op.info.2) = some (some (.ref f))) (hf : isFn K (.ref f) = true) (hr : findIn K (.ref C) (dunderR op.info.2) = some rc) (hp : rc = none ∨ ∃ g : Addr, rc = some (.ref g))
    (hs' : findIn K (.ref C') (PySem.dunder op.info.2) = some (some (.ref f'))) (hr' : findIn K (.ref C') (dunderR op.info.2) = some rc') (hp' : rc' = none ∨ ∃ g : Addr, rc' = some (.ref g)) (hsub : subIn K (.ref C') (.ref C) = some false)
    (h : wpAny (model prog w) A (call (.ref f) [.ref x, .ref y]) (CmpBack Q) E s) : wpAny (model prog w) A (binaryOp op (.ref x) (.ref y)) Q E s := by
  have X := X₀.keeps F.keep
  obtain ⟨cd, rest, hcd, hm⟩ := ksp_first hc
  obtain ⟨cd', rest', hcd', hm'⟩ := ksp_first hc'
  rcases hi : op.info with ⟨sym, nm'⟩
  rw [hi] at hs hr hs' hr'
  dsimp only at hs hr hs' hr'
  have one := ksp_try X I hs hf h
  obtain ⟨hh, g, d, tt, os⟩ := s
  have L1 : Looks (model prog w) hh (typeOf (.ref x)) (.ref C) := I.type
  have L2 : Looks (model prog w) hh (typeOf (.ref y)) (.ref C') := I'.type
  have L3 : Looks (model prog w) hh (fillsNumberSlot (.ref C) nm') true := fills_K X hcd hm hs
  have L4 : Looks (model prog w) hh (fillsNumberSlot (.ref C') nm') true := fills_K X hcd' hm' hs'
  have L5 : Looks (model prog w) hh (isSubtype (.ref C') (.ref C)) false := looks_subIn X hsub
  have L6 : Looks (model prog w) hh (numberSlotInPython (.ref C) nm') true := ksp_inPy X hs hr hp
  have L7 : Looks (model prog w) hh (numberSlotInPython (.ref C') nm') true := ksp_inPy X hs' hr' hp'
  have hnb : (Value.ref C == Value.ref C') = false := Bool.eq_false_iff.mpr fun q => hne (by cases beq_iff_eq.mp q; rfl)
  simp only [binaryOp, hi]
  refine wpAny_holding (wpAny_bind ?_)
  unfold binaryOp1
  refine wpAny_bind (L1.at (wpAny_bind (L2.at (wpAny_bind (L3.at ?_)))))
  simp only [hnb, Bool.false_eq_true, if_false]
  ksp_lk
  refine wpAny_mono one (fun r s' hr' => ?_) fun _ _ e => e
  obtain ⟨v, rfl, hq⟩ := hr'
  ksp_lk
  exact hq
end
end PySem.W
namespace JW
open PySem PySem.Spec PyProof.Rows L2
section
variable {X : Cx} {CX : CXT} {k : Nat} {C C' : Addr} {ps : List Str} {sp : Sp} {dvs : List V} {E : XK} {x cx : Str} {p pos : Pos} {e : Expr} {es : List Expr} {t : TA} {tv : TE}
theorem pe_makeV (M : MakeD X.prog X.w X.K X.mg X.base CX k cx C ps dvs sp) (hr : Room (k + 1) X.A) (hx : Passes CX X E) (hv : PE X (.Name x p) tv) (ha : PA X (e :: es) t)
    (he : starEach (e :: es) X.env = (false, eval e X.env) :: starEach es X.env := by rfl) (hpl : (backTo pos (starEach es X.env)).any (·.1) = false := by rfl) : PE X (.Call (.Name x p) (e :: es) [] pos) (fun σ H Q => tv σ H fun v H1 => v = .ref C ∧ tMake C sp dvs E t σ H1 Q) := by
  obtain ⟨f, fd, ds, h1, h2, h3, h4, F⟩ := M.ex
  refine ⟨fun pins s σ H Q I h => ?_⟩
  refine wpAny_Call_Name_kw (thn (hv.run pins s σ H _ I h) fun u s0 ⟨v, H0, I0, r0, ev, h⟩ => ?_)
  subst ev
  cases r0
  refine PySem.W.callWith_K (h₀ := X.base) I0.ok.mod.kin h2.kp (thn (ha.run pos pins s0 σ H0 _ I0 h) fun us s1 ⟨vs, H1, I1, r, q⟩ => ⟨I1.kIn, ?_⟩) he hpl
  exact run_make h2 F hr h3 h4 hx I1 r q
def rOwn2 (C C' : Addr) (sp : Sp) (E : XK) : R2 := fun x y H Q => ∃ a dx fs b dy gs, x = .ref a ∧ y = .ref b ∧ H a = some (.ins C dx fs) ∧ H b = some (.ins C' dy gs) ∧ sp [x, y] H (fun v H' => v ≠ .non ∧ Q v H') E
structure Two (K : PySem.W.Frag) (C C' : Addr) (nm : String) : Prop where
  ne : C ≠ C'
  sf : PySem.W.selfFirst K C = true
  sf' : PySem.W.selfFirst K C' = true
  r : ∃ rc, PySem.W.findIn K (.ref C) (dunderR nm) = some rc ∧ (rc = none ∨ ∃ g : Addr, rc = some (.ref g))
  m' : ∃ f' : Addr, PySem.W.findIn K (.ref C') (PySem.dunder nm) = some (some (.ref f'))
  r' : ∃ rc, PySem.W.findIn K (.ref C') (dunderR nm) = some rc ∧ (rc = none ∨ ∃ g : Addr, rc = some (.ref g))
  sub : PySem.W.subIn K (.ref C') (.ref C) = some false
def tBin2S (C C' : Addr) (sp : Sp) (E : L2.St → XK) (ta tb : TE) : TE := fun σ H Q => ta σ H fun x H1 => tb σ H1 fun y H2 => rOwn2 C C' sp (E σ) x y H2 Q
theorem pe_bin2S {op : Operator} {ea eb : Expr} {ta tb : TE} {E : L2.St → XK} (W : Two X.K C C' op.info.2) (M : MethD X.prog X.w X.K X.mg X.base CX k C (PySem.dunder op.info.2) ps [] sp) (hr : Room k X.A) (hx : ∀ σ, PassesAt CX X σ (E σ)) (ha : PE X ea ta) (hb : PE X eb tb) : PE X (.BinOp ea op eb pos) (tBin2S C C' sp E ta tb) := by
  refine ⟨fun pins s σ H Q I h => ?_⟩
  refine wpAny_BinOp (thn (ha.run pins s σ H _ I h) fun v s1 ⟨x, H1, I1, rx, q1⟩ => thn (hb.run pins s1 σ H1 _ I1 q1) fun u s2 ⟨y, H2, I2, ry, q2⟩ => ?_)
  obtain ⟨a, dx, fs, b, dy, gs, rfl, rfl, ha, hb, q⟩ := q2
  cases rx
  cases ry
  obtain ⟨f, fd, ds, hm, hbd, hd, F⟩ := M.ex
  cases hd
  obtain ⟨mA, J, _⟩ := ins_get I2.hok ha
  obtain ⟨mB, J', _⟩ := ins_get I2.hok hb
  obtain ⟨od, J, _⟩ := J.look
  obtain ⟨od', J', _⟩ := J'.look
  obtain ⟨m, hF⟩ := I2.fr
  obtain ⟨rc, c1, c2⟩ := W.r
  obtain ⟨f', c3⟩ := W.m'
  obtain ⟨rc', c4, c5⟩ := W.r'
  refine PySem.W.own_two hF I2.ok.mod.kin J J' W.ne W.sf W.sf' hm.at_ hm.fn c1 c2 c3 c4 c5 W.sub ?_
  refine wpAny_mono (run_fnS2 (us := [.ref a, .ref b]) (vs := [.ref a, .ref b]) F hr hbd .nil (hx σ) I2 (.cons rfl (.cons rfl .nil)) q) (fun v s' z => ?_) fun _ _ z => z
  obtain ⟨v', H', I', r, _, q'⟩ := z
  exact relV_back r ⟨v', H', I', r, q'⟩
end
end JW
namespace AL
open PySem PySem.Spec PyProof.Rows L2 LamX JW
def aMakeMV (C : Addr) (asp : ASp) (a : ATE) (as : ATA) : ATE := fun env L Q => a env L fun d L1 => d = .ref C ∧ aMakeM C asp as env L1 Q
def ownMD (C : Addr) (asp : ASp) : D → D → Store → AQ → Prop
  | .ref p, .ref q, L, Q => (∃ ks ds, L p = some (.ins C ks ds)) ∧ (∃ ks ds, L q = some (.ins C ks ds)) ∧ asp [.ref p, .ref q] L (fun z L' => isNonD z = false ∧ Q z L') anyX
  | _, _, _, _ => False
def ownMTX (C : Addr) (asp : ASp) (RX : AX) : D → D → Store → AQ → Prop
  | .ref p, .tree t, L, Q => (∃ ks ds, L p = some (.ins C ks ds)) ∧ asp [.ref p, .tree t] L (fun z L' => isNonD z = false ∧ Q z L') RX
  | _, _, _, _ => False
section
variable {X : Cx} {c : AC X.K} {H0 : Hp} {k : Nat} {ps : List Str} {asp : ASp} {C : Addr} {x cx : Str} {p pos : Pos} {e : Expr} {es : List Expr} {a : ATE} {as : ATA}
theorem ae_makeMV (M : MakeD X.prog X.w X.K X.mg X.base CX0 k cx C ps [] (spA c asp)) (hr : Room (k + 1) X.A) (ni : ¬ IC c C) (hv : AE X c H0 (.Name x p) a) (ha : AA X c H0 (e :: es) as)
    (he : starEach (e :: es) X.env = (false, eval e X.env) :: starEach es X.env := by rfl) (hpl : (backTo pos (starEach es X.env)).any (·.1) = false := by rfl) : AE X c H0 (.Call (.Name x p) (e :: es) [] pos) (aMakeMV C asp a as) := by
  refine (pe_makeV (E := fun _ _ _ => True) M hr pass0 hv ha he hpl).imp fun σ H Q ⟨env, L, R, rl, h, pq⟩ => ?_
  refine ⟨env, L, _, rl, h, fun d L0 v0 H0' ⟨ed, h⟩ s0 g0 r0 => ?_⟩
  subst ed
  refine ⟨rep_ref.mp r0, env, L0, _, rl.step s0 g0, h, fun ds L1 vs H1 q s1 g1 r1 x dx hx hdx ne => ?_⟩
  have f1 : Fr c H1 (upd H1 dx (.own x)) := .new hdx
  have hx2 : upd H1 dx (.own x) x = none := by rw [upd_ne (Ne.symm ne)]; exact hx
  have f2 : Fr c (upd H1 dx (.own x)) (upd (upd H1 dx (.own x)) x (.ins C dx [])) := .new hx2
  have g2 := (g1.new hdx (.own x)).alloc (m := .ins C [] []) hx2 (.ins C dx []) ⟨dx, [], upd_same, ni, rfl, RepL.nil⟩
  show spA c asp (V.ref x :: (vs ++ [])) _ _ _
  rw [List.append_nil]
  exact ⟨.ref x :: ds, _, _, anyX, .cons (rep_ref.mpr rfl) ((r1.fr f1).fr f2), g2, q x (g1.fresh hx), fun d L2 v H2 ⟨e1, q2⟩ s2 g2 r2 => ⟨by rw [e1] at r2; exact rep_non.mp r2, pq _ L2 _ H2 q2 ((((s0.trans s1).trans f1).trans f2).trans s2) g2 (rep_ref.mpr rfl)⟩, px_any⟩
theorem aop_ownM {op : Operator} (sf : PySem.W.selfFirst X.K C = true) (M : MethD X.prog X.w X.K X.mg X.base CX0 k C (PySem.dunder op.info.2) ps [] (spA c asp)) (hr : Room k X.A) : AOp X c (binaryOp op) (ownMD C asp) := by
  refine .mk' (op_own (E := fun _ _ _ => True) sf M hr pass0) fun x y H Q d e L R rx ry g h pq => ?_
  unfold ownMD at h
  split at h
  · obtain ⟨⟨ks, ds, e1⟩, ⟨ks2, ds2, e3⟩, h⟩ := h
    cases rep_ref.mp rx
    cases rep_ref.mp ry
    obtain ⟨dx, vs, e2, _⟩ := g.st _ _ e1
    obtain ⟨dy, ws, e4, _⟩ := g.st _ _ e3
    exact ⟨_, dx, _, _, dy, _, rfl, rfl, e2, e4, _, L, _, anyX, .cons rx (.one ry), g, h, fun z L' v H' ⟨n, r⟩ s g' rz => ⟨non_low rz n, pq z L' v H' r s g' rz⟩, px_any⟩
  · exact h.elim
def aBinMP (C : Addr) (asp : ASp) (RXe : En → AX) (a b : ATE) : ATE := fun env L Q => a env L fun d L1 => b env L1 fun e L2 => ownMTX C asp (RXe env) d e L2 Q
theorem ae_binMP {op : Operator} {f : Expr} {b : ATE} {RXe : En → AX} (W : Two X.K C (cF X.K) op.info.2) (M : MethD X.prog X.w X.K X.mg X.base (L2.CX X.prog X.w) k C (PySem.dunder op.info.2) ps [] (spA c asp)) (hr : Room k X.A) (hp : PassA X c H0 RXe) (ha : AE X c H0 e a) (hb : AE X c H0 f b) : AE X c H0 (.BinOp e op f pos) (aBinMP C asp RXe a b) := by
  obtain ⟨E, h1, h2⟩ := hp.ex
  refine (pe_bin2S W M hr h1 ha hb).imp fun σ H Q ⟨env, L, R, rl, h, pq⟩ => ?_
  refine ⟨env, L, _, rl, h, fun d L1 x H1 q1 s1 g1 rx => ⟨env, L1, _, rl.step s1 g1, q1, fun e L2 y H2 q2 s2 g2 ry => ?_⟩⟩
  have f12 := s1.trans s2
  have rx := rx.fr s2
  unfold ownMTX at q2
  split at q2
  · obtain ⟨⟨ks, ds, e1⟩, h⟩ := q2
    cases rep_ref.mp rx
    obtain ⟨q, dy, gs, rfl, e4⟩ := ftn_ins (rep_tree.mp ry)
    obtain ⟨dx, vs, e2, _⟩ := g2.st _ _ e1
    exact ⟨_, dx, _, q, dy, gs, rfl, rfl, e2, e4, _, L2, _, RXe env, .cons rx (.one ry), g2, h, fun z L' v H' ⟨n, r⟩ s g' rz => ⟨non_low rz n, (pq.fr f12) z L' v H' r s g' rz⟩, (h2 σ H env L rl).fr f12⟩
  · exact q2.elim
end
end AL
namespace JW
open PySem PySem.Spec PyProof.Rows L2 LamX AL
inductive Nd where
  | mk (own rest : Bool) (br : List (T × Nd))
namespace Nd
def own : Nd → Bool | .mk o _ _ => o
def rest : Nd → Bool | .mk _ r _ => r
def br : Nd → List (T × Nd) | .mk _ _ b => b
def uni (v : Bool) : Nd := .mk v v []
def isUni (v : Bool) : Nd → Bool | .mk o r b => (o == v) && ((r == v) && b.isEmpty)
mutual
def d : Nd → D
  | .mk o r b => .tup [.bl o, .bl r, .tup (dL b)]
def dL : List (T × Nd) → List D
  | [] => []
  | (t, n) :: r => .tup [.tree t, d n] :: dL r
end
theorem dL_map : ∀ l : List (T × Nd), dL l = l.map fun q => .tup [.tree q.1, q.2.d]
  | [] => by simp [dL]
  | (t, n) :: r => by simp [dL, dL_map r]
theorem d_eq (n : Nd) : n.d = .tup [.bl n.own, .bl n.rest, .tup (n.br.map fun q => .tup [.tree q.1, q.2.d])] := by
  cases n with
  | mk o r b =>
    show d (.mk o r b) = _
    rw [d, dL_map]
    rfl
theorem d_uni (v : Bool) : (uni v).d = .tup [.bl v, .bl v, .tup []] := by rw [d_eq]; rfl
def trim (o r : Bool) (b : List (T × Nd)) : Nd := .mk o r (b.filter fun q => !isUni r q.2)
def sub (n : Nd) (p : T) : Nd := match n.br.find? fun q => decide (q.1 = p) with
  | some q => q.2
  | none => uni n.rest
def dec (s : Str) (a b : Bool) : Bool := if s = "|" then a || b else if s = "&" then a && b else if s = "-" then a && !b else a != b
def insT (l : List T) (k : T) : List T := if k ∈ l then l else l ++ [k]
def both (m n : Nd) : List T := sortT ((n.br.map (·.1)).foldl insT ((m.br.map (·.1)).foldl insT []))
def jn (s : Str) : Nat → Nd → Nd → Nd
  | 0, m, n => .mk (dec s m.own n.own) (dec s m.rest n.rest) []
  | k + 1, m, n => trim (dec s m.own n.own) (dec s m.rest n.rest) ((both m n).map fun p => (p, jn s k (sub m p) (sub n p)))
def Wf (S : List T) : Nat → Nd → Prop
  | 0, n => n.br = []
  | k + 1, n => (n.br.map (·.1)).Nodup ∧ ∀ q ∈ n.br, q.1 ∈ S ∧ Wf S k q.2
theorem wf_uni (S : List T) (v : Bool) : ∀ k, Wf S k (uni v)
  | 0 => rfl
  | k + 1 => ⟨List.nodup_nil, fun q h => absurd h List.not_mem_nil⟩
theorem Wf.succ {S : List T} : ∀ {k : Nat} {n : Nd}, Wf S k n → Wf S (k + 1) n
  | 0, n, h => by
    have e : n.br = [] := h
    refine ⟨by rw [e]; exact List.nodup_nil, fun q hq => ?_⟩
    rw [e] at hq
    exact absurd hq List.not_mem_nil
  | k + 1, n, h => ⟨h.1, fun q hq => ⟨(h.2 q hq).1, (h.2 q hq).2.succ⟩⟩
theorem Wf.mono {S : List T} {j k : Nat} {n : Nd} (h : Wf S j n) (hk : j ≤ k) : Wf S k n := by
  induction hk with
  | refl => exact h
  | step _ ih => exact ih.succ
theorem wf_sub {S : List T} {k : Nat} {n : Nd} (h : Wf S (k + 1) n) (p : T) : Wf S k (sub n p) := by
  unfold sub
  split
  · rename_i q e
    exact (h.2 q (List.mem_of_find?_eq_some e)).2
  · exact wf_uni S _ k
theorem mem_insT {l : List T} {k x : T} : x ∈ insT l k ↔ x ∈ l ∨ x = k := by
  unfold insT
  split
  · rename_i h
    exact ⟨.inl, fun h2 => h2.elim id fun e => by rw [e]; exact h⟩
  · rw [List.mem_append, List.mem_singleton]
theorem insT_nd {l : List T} (k : T) (h : l.Nodup) : (insT l k).Nodup := by
  unfold insT
  split
  · exact h
  · rename_i hk
    exact List.nodup_append.mpr ⟨h, List.pairwise_singleton _ _, fun x hx y hy e => hk (by rw [← List.mem_singleton.mp hy, ← e]; exact hx)⟩
theorem foldT {l : List T} (m : List T) (h : l.Nodup) : (m.foldl insT l).Nodup ∧ ∀ x, x ∈ m.foldl insT l ↔ x ∈ l ∨ x ∈ m := by
  induction m generalizing l with
  | nil => exact ⟨h, fun x => by simp⟩
  | cons y m ih =>
    obtain ⟨h1, h2⟩ := ih (insT_nd y h)
    exact ⟨h1, fun x => by rw [List.foldl_cons, h2, mem_insT, List.mem_cons, or_assoc]⟩
theorem both_nd (m n : Nd) : (both m n).Nodup ∧ ∀ x, x ∈ both m n ↔ x ∈ m.br.map (·.1) ∨ x ∈ n.br.map (·.1) := by
  obtain ⟨h1, h2⟩ := foldT (m.br.map (·.1)) (l := []) List.nodup_nil
  obtain ⟨h3, h4⟩ := foldT (n.br.map (·.1)) h1
  have p := sortT_perm ((n.br.map (·.1)).foldl insT ((m.br.map (·.1)).foldl insT []))
  refine ⟨p.nodup_iff.mpr h3, fun x => ?_⟩
  unfold both
  rw [p.mem_iff, h4, h2]
  simp
theorem wf_names {S : List T} {k : Nat} {n : Nd} (h : Wf S k n) : (n.br.map (·.1)).Nodup ∧ ∀ x ∈ n.br.map (·.1), x ∈ S := by
  have h := h.succ
  exact ⟨h.1, fun x hx => by obtain ⟨q, hq, e⟩ := List.mem_map.mp hx; rw [← e]; exact (h.2 q hq).1⟩
theorem wf_trim {S : List T} {k : Nat} {o r : Bool} {b : List (T × Nd)} (hn : (b.map (·.1)).Nodup) (h : ∀ q ∈ b, q.1 ∈ S ∧ Wf S k q.2) : Wf S (k + 1) (trim o r b) :=
  ⟨List.Nodup.sublist (List.filter_sublist.map _) hn, fun q hq => h q (List.mem_filter.mp hq).1⟩
theorem wf_jn {S : List T} (s : Str) : ∀ (k : Nat) {m n : Nd}, Wf S k m → Wf S k n → Wf S k (jn s (k + 1) m n)
  | 0, m, n, h1, h2 => by
    have e1 : m.br = [] := h1
    have e2 : n.br = [] := h2
    have e : both m n = [] := by
      have h := (both_nd m n).2
      rw [e1, e2] at h
      exact List.eq_nil_iff_forall_not_mem.mpr fun x hx => by simpa using (h x).mp hx
    show (trim _ _ ((both m n).map _)).br = []
    rw [e]; rfl
  | k + 1, m, n, h1, h2 => by
    have hm : ∀ x ∈ both m n, x ∈ S := fun x hx => ((both_nd m n).2 x).mp hx |>.elim (fun z => (wf_names h1).2 x z) fun z => (wf_names h2).2 x z
    refine wf_trim ?_ fun q hq => ?_
    · rw [List.map_map]
      show ((both m n).map id).Nodup
      rw [List.map_id]
      exact (both_nd m n).1
    · obtain ⟨p, hp, e⟩ := List.mem_map.mp hq
      rw [← e]
      exact ⟨hm p hp, wf_jn s k (wf_sub h1 p) (wf_sub h2 p)⟩
theorem sub_hit {m : Nd} {p : T} {pre rest : List (T × Nd)} {q : T × Nd} (e : m.br = pre ++ q :: rest) (hn : ∀ x ∈ pre, x.1 ≠ p) (hq : q.1 = p) : m.sub p = q.2 := by
  have h : m.br.find? (fun q => decide (q.1 = p)) = some q := by
    rw [e, List.find?_append]
    have h1 : pre.find? (fun q => decide (q.1 = p)) = none := List.find?_eq_none.mpr fun x hx => by simpa using hn x hx
    rw [h1, List.find?_cons, decide_eq_true hq]
    rfl
  unfold sub
  rw [h]
theorem sub_miss {m : Nd} {p : T} (hn : ∀ x ∈ m.br, x.1 ≠ p) : m.sub p = uni m.rest := by
  have h : m.br.find? (fun q => decide (q.1 = p)) = none := List.find?_eq_none.mpr fun x hx => by simpa using hn x hx
  unfold sub
  rw [h]
theorem eqDD_bl (a b : Bool) : eqDD (.bl a) (.bl b) = some (a == b) := by cases a <;> cases b <;> decide +kernel
theorem eq_uni (n : Nd) (r : Bool) : eqDL [.bl n.own, .bl n.rest, .tup (n.br.map fun q => .tup [.tree q.1, q.2.d])] [.bl r, .bl r, .tup []] = some (isUni r n) := by
  cases n with
  | mk o s b =>
    show eqDL [.bl o, .bl s, .tup (b.map fun q => .tup [.tree q.1, q.2.d])] [.bl r, .bl r, .tup []] = some ((o == r) && ((s == r) && b.isEmpty))
    have h : eqDD (.tup (b.map fun q => .tup [.tree q.1, q.2.d])) (.tup []) = some b.isEmpty := by
      cases b with
      | nil => simp [eqDD, eqDL]
      | cons q l => simp [eqDD, eqDL]
    simp only [eqDL, eqDD_bl, h, Bool.and_true]
theorem dep_wf {S : List T} : ∀ (k : Nat) {n : Nd}, Wf S k n → depD n.d ≤ 3 * k + 2
  | 0, n, h => by
    have e : n.br = [] := h
    rw [d_eq, e]
    simp [depD, depDL]
  | k + 1, n, h => by
    rw [d_eq]
    have hl : ∀ l : List (T × Nd), (∀ q ∈ l, q.1 ∈ S ∧ Wf S k q.2) → depDL (l.map fun q => .tup [.tree q.1, q.2.d]) ≤ 3 * k + 3 := by
      intro l
      induction l with
      | nil => intro _; simp [depDL]
      | cons q l ih =>
        intro hq
        have h1 := dep_wf k (hq q List.mem_cons_self).2
        have h2 := ih fun x hx => hq x (List.mem_cons_of_mem _ hx)
        simp only [List.map_cons, depDL, depD]
        omega
    have := hl n.br h.2
    simp only [depD, depDL]
    omega
theorem at3_0 {a b c : D} : atI [a, b, c] 0 = some a := show atI _ ((0 : Nat) : Int) = _ from atI_nat rfl
theorem at3_1 {a b c : D} : atI [a, b, c] 1 = some b := show atI _ ((1 : Nat) : Int) = _ from atI_nat rfl
theorem at3_2 {a b c : D} : atI [a, b, c] 2 = some c := show atI _ ((2 : Nat) : Int) = _ from atI_nat rfl
theorem at2_1n {a b : D} : atI [a, b] 1 = some b := show atI _ ((1 : Nat) : Int) = _ from atI_nat rfl
theorem ne_uni {n : Nd} {r : Bool} {L : Store} {Q : AQ} (hd : depD n.d ≤ 71) (h : Q (.bl (!isUni r n)) L) : eqG true n.d (uni r).d L Q := by
  rw [d_eq] at hd
  rw [d_eq, d_uni]
  refine ⟨_, eq_uni n r, ?_, ?_⟩
  · simp only [depD] at hd
    omega
  · have e : (true ^^ (isUni r n && ([D.bl n.own, .bl n.rest, .tup (n.br.map fun q => .tup [.tree q.1, q.2.d])].length == [D.bl r, .bl r, .tup []].length))) = !isUni r n := by cases isUni r n <;> rfl
    rw [e]
    exact h
theorem nd_len {α : Type} [DecidableEq α] : ∀ (l S : List α), l.Nodup → (∀ x ∈ l, x ∈ S) → l.length ≤ S.length
  | [], _, _, _ => Nat.zero_le _
  | x :: l, S, hn, hs => by
    obtain ⟨h1, h2⟩ := List.nodup_cons.mp hn
    have hx : x ∈ S := hs x List.mem_cons_self
    have ih := nd_len l (S.erase x) h2 fun y hy => (List.mem_erase_of_ne fun e => h1 (by rw [← e]; exact hy)).2 (hs y (List.mem_cons_of_mem _ hy))
    have e := List.length_erase_of_mem hx
    have hp : 0 < S.length := List.length_pos_of_mem hx
    rw [List.length_cons]
    omega
theorem wf_len {S : List T} {k : Nat} {n : Nd} (h : Wf S k n) : n.br.length ≤ S.length := by
  have := nd_len _ S (wf_names h).1 (wf_names h).2
  rwa [List.length_map] at this
theorem texts_eq {m n : Nd} {ys : List Str} (p : ys.Perm (((n.br.map fun q => tx q.1).foldl STx.insS []).foldl STx.insS ((m.br.map fun q => tx q.1).foldl STx.insS []))) (h : sortedS ys = true) : ys = (both m n).map tx := by
  obtain ⟨a1, a2, _⟩ := STx.fold_spec (m.br.map fun q => tx q.1) (l := []) List.nodup_nil
  obtain ⟨b1, b2, _⟩ := STx.fold_spec (n.br.map fun q => tx q.1) (l := []) List.nodup_nil
  obtain ⟨c1, c2, _⟩ := STx.fold_spec ((n.br.map fun q => tx q.1).foldl STx.insS []) a1
  obtain ⟨d1, d2⟩ := both_nd m n
  have nd : ((both m n).map tx).Nodup := List.Pairwise.map _ (fun a b hne e => hne (tx_inj e)) d1
  have q : ys.Perm ((both m n).map tx) := p.trans ((List.perm_ext_iff_of_nodup c1 nd).mpr fun z => by
    rw [c2, a2, b2]
    simp only [List.not_mem_nil, false_or, List.mem_map]
    constructor
    · rintro (⟨q, hq, e⟩ | ⟨q, hq, e⟩)
      · exact ⟨q.1, (d2 _).mpr (.inl (List.mem_map.mpr ⟨q, hq, rfl⟩)), e⟩
      · exact ⟨q.1, (d2 _).mpr (.inr (List.mem_map.mpr ⟨q, hq, rfl⟩)), e⟩
    · rintro ⟨t, ht, e⟩
      rcases (d2 t).mp ht with z | z
      · obtain ⟨q, hq, e2⟩ := List.mem_map.mp z
        exact .inl ⟨q, hq, by rw [e2]; exact e⟩
      · obtain ⟨q, hq, e2⟩ := List.mem_map.mp z
        exact .inr ⟨q, hq, by rw [e2]; exact e⟩)
  have e := sorted_tx q h
  rw [e]
  unfold both
  rw [sortT_of (sortT_srt _)]
def endN (n : Nd) (w : List T) : Nd := w.foldl (fun n p => trim false false [(p, n)]) n
def startN (n : Nd) (w : List T) : Nd := w.reverse.foldl sub n
theorem wf_endN {S : List T} : ∀ (w : List T) {k : Nat} {n : Nd}, Wf S k n → (∀ p ∈ w, p ∈ S) → Wf S (k + w.length) (endN n w)
  | [], k, n, h, _ => h
  | p :: w, k, n, h, hw => by
    have h1 : Wf S (k + 1) (trim false false [(p, n)]) := wf_trim (by simp) fun q hq => by
      rw [List.mem_singleton.mp hq]
      exact ⟨hw p List.mem_cons_self, h⟩
    have := wf_endN w h1 fun q hq => hw q (List.mem_cons_of_mem _ hq)
    rw [List.length_cons, show k + (w.length + 1) = k + 1 + w.length by omega]
    exact this
end Nd
mutual
def namN (e : List T) : Nd → List (List T × Bool × Bool)
  | .mk o r b => (e, o, r) :: namL e b
def namL (e : List T) : List (T × Nd) → List (List T × Bool × Bool)
  | [] => []
  | (p, n) :: l => namN (p :: e) n ++ namL e l
end
end JW
namespace AL
open PySem PySem.Spec PyProof.Rows L2 LamX JW
theorem compS_map {α : Type} {g : ATG} {a : ATE} {G : Store → Prop} {env : En} {R : List Str → Store → Prop} {L : Store} (f : α → D) (h : α → Str) (hG : G L) : ∀ (ws : List α) (acc : List Str), acc.length + ws.length ≤ 4000 →
    (∀ w ∈ ws, ∀ k : AQ, k (.str (h w)) L → g (f w) env L fun env1 L1 => L1 = L ∧ a env1 L1 k) → R ((ws.map h).foldl STx.insS acc) L → compS g a G env R (ws.map f) acc L
  | [], acc, hz, hs, q => ⟨hG, q⟩
  | w :: ws, acc, hz, hs, q => by
    rw [List.length_cons] at hz
    have hl := STx.insS_len acc (h w)
    exact ⟨hG, hs w List.mem_cons_self _ ⟨_, rfl, by omega, compS_map f h hG ws _ (by omega) (fun x hx => hs x (List.mem_cons_of_mem _ hx)) q⟩⟩
end AL
namespace JW
open PySem PySem.Spec PyProof.Rows L2
section
variable {X : Cx} {CX : CXT} {k : Nat} {C : Addr} {ps : List Str} {sp : Sp} {E : L2.St → XK} {x m : Str} {p1 apos pos : Pos} {e : Expr} {es : List Expr} {t : TA}
theorem pe_cmethS0 {pl : Sem Bool} (hg : Gl X x) (hm : X.mg x = some (.ref C)) (M : CmD X.prog X.w X.K X.mg X.base CX k C m ps sp) (hr : Room k X.A) (hx : ∀ σ, PassesAt CX X σ (E σ)) (hdb : (x == ("__debug__" : Str)) = false := by decide)
    (ht : eval (.Call (.Attribute (.Name x p1) m apos) [] [] pos) X.env = (do
      let ov ← eval (.Name x p1) X.env
      standAt apos.atName
      let (f, first) ← holding [ov] (getMethod ov m pl)
      callWith pos f first (backTo pos (starEach [] X.env)) (backToKw pos (keywordEach [] X.env))) := by rfl) : PE X (.Call (.Attribute (.Name x p1) m apos) [] [] pos) (tCmS C sp E tNil) := by
  obtain ⟨mc, p, f, fd, r, c, hb, F⟩ := M.ex
  refine ⟨fun pins s σ H Q I h => ?_⟩
  refine PySem.W.methodCall_KW (pl := pl) (ld_glob I hg hm ?_ hdb) ht
  refine ClX.getmethcm_ok I r c fun s2 I2 => ?_
  refine PySem.W.callWith_M0 ⟨ClX.pin_at I2, I2.kIn⟩ c.fi ?_
  have q2 : sp [.ref C] H Q (E σ) := h
  have r2 : Vals [.ref C] [.ref C] := .cons rfl .nil
  have hl : ([Value.ref C]).length = ps.length := by rw [← r2.length]; exact F.len _ _ _ _ q2
  have b := hb s2 [.ref C] I2.kIn (by rw [List.append_nil]; exact hl)
  rw [List.append_nil] at b
  have z : wpAny (model X.prog X.w) X.A (call (.ref s.heap.objs.size) []) (EP X ((s.heap.objs.size, PySem.W.methodObj (.ref f) (.ref C)) :: pins) σ Q) X.xe s2 :=
    wpAny_call (PySem.W.method_call (ClX.pin_at I2) (codeAny_mono (F.run X.A X.stack s2 H ⟨[.ref C], []⟩ [.ref C] [.ref C] Q (E σ) hr I2.env0 b r2 q2) fun r s' hq => (by
      cases r with
      | error e => exact hx σ _ H s2 e s' I2 hq
      | ok fl =>
        cases fl with
        | ret u => exact I2.after hq
        | next => exact False.elim hq
        | brk => exact False.elim hq
        | cont => exact False.elim hq)))
  exact thn z fun _ _ y => ClX.unpinE y
end
end JW
namespace AL
open PySem PySem.Spec PyProof.Rows L2 LamX JW
def aCmM (C : Addr) (asp : ASp) (as : ATA) : ATE := fun env L Q => as env L fun ds L1 => asp (.ref C :: ds) L1 Q anyX
section
variable {X : Cx} {c : AC X.K} {H0 : Hp} {e : Expr} {es : List Expr} {as : ATA} {x m : Str} {p1 pos apos : Pos} {k : Nat} {ps : List Str} {asp : ASp} {C : Addr} {RXe : En → AX}
theorem ae_cm0M {pl : Sem Bool} (hg : Gl X x) (hm : X.mg x = some (.ref C)) (M : CmD X.prog X.w X.K X.mg X.base CX0 k C m ps (spA c asp)) (hr : Room k X.A) (hdb : (x == ("__debug__" : Str)) = false := by decide)
    (ht : eval (.Call (.Attribute (.Name x p1) m apos) [] [] pos) X.env = (do
      let ov ← eval (.Name x p1) X.env
      standAt apos.atName
      let (f, first) ← holding [ov] (getMethod ov m pl)
      callWith pos f first (backTo pos (starEach [] X.env)) (backToKw pos (keywordEach [] X.env))) := by rfl) : AE X c H0 (.Call (.Attribute (.Name x p1) m apos) [] [] pos) (aCmM C asp aNil) := by
  refine (pe_cmethS0 (E := fun _ _ _ _ => True) hg hm M hr (passN pass0) hdb ht).imp fun σ H Q ⟨env, L, R, rl, h, pq⟩ => ?_
  exact ⟨_, L, R, anyX, .one (rep_ref.mpr rfl), rl.good, h, pq, px_any⟩
end
section
variable {P : Program} {w : World} {K : PySem.W.Frag} {mg : Str → Option Value} {base : Heap} {c : AC K} {m qual : Str} {st : Stmt} {N ps : List Str} {k : Nat} {asp : ASp} {C : Addr}
theorem _root_.JW.CmAt.okAX {a : AX → ATS} (D : CmAt K C m qual st ps) (S : FnScope N ps (defScope st)) (hl : ∀ ds L R RX, asp ds L R RX → ds.length = ps.length)
    (body : ∀ (f : Addr) (cdv : Value) (A : Around) (outer : List Env) (s : Shared) (H : Hp) (E : XK) (RX : AX), Px c H RX E → Room k (A.deeper (envOfC qual (defScope st) s.heap.objs.size f cdv)) → ASs (cxOf (L2.CX P w) P w K mg base N qual (defScope st) f cdv A outer s H E) c H (defBody st) (a RX))
    (vc : ∀ ds L R RX, asp ds L R RX → a RX (fnEnds R) (startA N ds) L) : CmD P w K mg base (L2.CX P w) (k + 1) C m ps (spA c asp) :=
  D.okX S (spA_len hl) fun f cdv A outer s H vs Q E hr ⟨ds, L, R, RX, r, g, h, pq, px⟩ => ⟨_, body f cdv A outer s H E RX px hr, body_low r g pq (vc ds L R RX h)⟩
theorem _root_.JW.CmAt.okA {a : ATS} (D : CmAt K C m qual st ps) (S : FnScope N ps (defScope st)) (hl : ∀ ds L R RX, asp ds L R RX → ds.length = ps.length)
    (body : ∀ (f : Addr) (cdv : Value) (A : Around) (outer : List Env) (s : Shared) (H : Hp) (E : XK), Room k (A.deeper (envOfC qual (defScope st) s.heap.objs.size f cdv)) → ASs (cxOf CX0 P w K mg base N qual (defScope st) f cdv A outer s H E).nox c H (defBody st) a)
    (vc : ∀ ds L R RX, asp ds L R RX → a (fnEnds R) (startA N ds) L) : CmD P w K mg base CX0 (k + 1) C m ps (spA c asp) :=
  D.ok S (spA_len hl) fun f cdv A outer s H vs Q E hr ⟨ds, L, R, RX, r, g, h, pq, px⟩ => ⟨_, body f cdv A outer s H E hr, body_low r g pq (vc ds L R RX h)⟩
end
end AL
namespace STx
open PySem PySem.Spec PyProof.Rows L2 HT
section
variable {prog : Program} {w : World} {A : Around} {E : Value → Shared → Prop} {s : Shared}
theorem applied_rev {sl : Addr} {n : Nat} {u : Tok} {Q : Int × Int × Nat → Shared → Prop} (hs : s.heap.IsSliceOf sl .none .none (.int (-1) u)) (h : Q ((n : Int) - 1, -1, n) s) :
    wpAny (model prog w) A (Builtin.Slice.sliceApplied (.ref sl) (pure (n : Int))) Q E s := by
  obtain ⟨os, hos, hcs, hds⟩ := id hs
  unfold Builtin.Slice.sliceApplied Builtin.Slice.sliceFields
  refine wpAny_bind (wpAny_bind (wpAny_field hos hds (x := .none) rfl (wpAny_bind (wpAny_field hos hds (x := .none) rfl (wpAny_bind (wpAny_field hos hds (x := .int (-1) u) rfl (wpAny_pure ?_)))))))
  refine wpAny_bind (slicePart_ (.int (-1) u) ?_)
  show wpAny _ _ (if ((-1 : Int) == 0) = true then _ else _) _ _ s
  rw [if_neg (by decide)]
  refine wpAny_bind (slicePart_ .none (wpAny_bind (slicePart_ .none (wpAny_bind (wpAny_pure ?_)))))
  show wpAny _ _ (pure ((n : Int) - 1, (-1 : Int), Builtin.Slice.slicePlaces ((n : Int) - 1) (-1) (-1))) _ _ s
  have e : Builtin.Slice.slicePlaces ((n : Int) - 1) (-1) (-1) = n := by
    unfold Builtin.Slice.slicePlaces
    have h1 : ¬ ((-1 : Int) > 0) := by omega
    have h2 : (-(-1) : Int) = 1 := rfl
    simp only [h1, if_false, h2, Int.ediv_one]
    split <;> omega
  rw [e]
  exact wpAny_pure h
theorem pick_rev (xs : Array Value) : ((List.range xs.size).filterMap fun (k : Nat) => xs[((xs.size : Int) - 1 + (k : Int) * (-1)).toNat]?).toArray = xs.toList.reverse.toArray := by
  congr 1
  have key : ∀ l : List Nat, (∀ k ∈ l, k < xs.size) → l.filterMap (fun (k : Nat) => xs[((xs.size : Int) - 1 + (k : Int) * (-1)).toNat]?) = l.map fun k => xs.toList.reverse[k]?.getD .none := by
    intro l
    induction l with
    | nil => intro _; rfl
    | cons x l ih =>
      intro hl
      have hx := hl x List.mem_cons_self
      have e : ((xs.size : Int) - 1 + (x : Int) * (-1)).toNat = xs.size - 1 - x := by omega
      have h1 : xs[xs.size - 1 - x]? = xs.toList.reverse[x]? := by
        rw [List.getElem?_reverse (by rw [Array.length_toList]; exact hx), Array.length_toList, Array.getElem?_toList]
      rw [List.filterMap_cons, e, h1, List.getElem?_eq_getElem (by rw [List.length_reverse, Array.length_toList]; exact hx), List.map_cons, ih fun i hi => hl i (List.mem_cons_of_mem _ hi)]
      rw [List.getElem?_eq_getElem (by rw [List.length_reverse, Array.length_toList]; exact hx)]
      rfl
  rw [key _ fun k hk => List.mem_range.mp hk]
  apply List.ext_getElem?
  intro i
  rw [List.getElem?_map]
  by_cases hi : i < xs.size
  · have hl : i < xs.toList.reverse.length := by rw [List.length_reverse, Array.length_toList]; exact hi
    rw [List.getElem?_range hi, List.getElem?_eq_getElem hl]
    show some (xs.toList.reverse[i]?.getD .none) = _
    rw [List.getElem?_eq_getElem hl]
    rfl
  · rw [List.getElem?_eq_none (by rw [List.length_range]; omega), List.getElem?_eq_none (by rw [List.length_reverse, Array.length_toList]; omega)]
    rfl
theorem getItem_rev {t sl : Addr} {items : Array Value} {u : Tok} {Q : Value → Shared → Prop} (ht : IsTup s.heap t items) (hs : s.heap.IsSliceOf sl .none .none (.int (-1) u))
    (h : Q (.ref s.heap.objs.size) { s with heap := s.heap.push { cls := .type "tuple", data := .seq items.toList.reverse.toArray } }) (hsz : items.size ≤ sizeLine) : wpAny (model prog w) A (getItem (.ref t) (.ref sl)) Q E s := by
  obtain ⟨os, hos, hcs, hds⟩ := id hs
  have hTs : s.TypeIs (.ref sl) "slice" := ⟨os, hos, hcs⟩
  have htake : sizeOk (.seq items.toList.reverse.toArray) := by
    show items.toList.reverse.toArray.size ≤ sizeLine
    rw [List.size_toArray, List.length_reverse, Array.length_toList]
    exact hsz
  unfold getItem
  try with_reducible refine wpAny_holding ?_
  first | refine wpAny_bind (wpAny_pure ?_) | skip
  refine wpAny_bind (wpAny_sequenceKey ht.typeIs (by decide) ?_)
  refine wpAny_bind (wpAny_callSpecial?_slot (name := Str.ofString "__getitem__") ht.typeIs PyProof.Rows.slot_tuple_getitem
    (wpAny_call_entry PyProof.Rows.slot_tuple_getitem ht.typeIs entry_tuple_getitem ?_ (args_tuple_getitem _ _)))
  show wpAny _ _ (Builtin.Tuple.tupleItemsOf (.ref t) >>= _) _ _ s
  refine wpAny_bind (tupleItemsOf_ ht ?_)
  refine wpAny_bind (wpAny_typeOf hTs ?_)
  rw [if_pos (by decide)]
  refine wpAny_bind (applied_rev hs ?_)
  show wpAny _ _ (if ((items.size : Int) - 1 == 0 && (-1 : Int) == 1 && items.size == items.size) = true then _ else _) _ _ s
  rw [if_neg (by simp), pick_rev]
  first
    | exact wpAny_bind (m := Builtin.Tuple.tupleExact _) (wpAny_newObj_type (wpAny_pure ⟨_, rfl, wpAny_pure h⟩) htake)
    | exact wpAny_bind (m := Builtin.Tuple.tupleExact _) (wpAny_newObj_type (wpAny_bind (wpAny_pure (wpAny_pure ⟨_, rfl, wpAny_pure h⟩))) htake)
    | exact wpAny_bind (wpAny_bind (m := Builtin.Tuple.tupleExact _) (wpAny_newObj_type (wpAny_pure (wpAny_pure ⟨_, rfl, wpAny_pure h⟩)) htake))
    | exact wpAny_bind (wpAny_bind (m := Builtin.Tuple.tupleExact _) (wpAny_newObj_type (wpAny_pure ⟨_, rfl, wpAny_pure h⟩) htake))
end
section
variable {X : Cx}
def tRevT (K : PySem.W.Frag) (te : TE) : TE := fun σ H Q => te σ H fun x H1 => ∃ a xs, x = .ref a ∧ SqT K H1 a xs ∧ ∀ p, H1 p = none → Q (.ref p) (upd H1 p (.tup xs.reverse))
theorem pe_revT {e : Expr} {te : TE} {k : Nat} {p1 p2 p3 pos : Pos} (he : PE X e te) : PE X (.Subscript e (.Slice none none (some (.UnaryOp .USub (.Constant (.int 1) k p1) p2)) p3) pos) (tRevT X.K te) := by
  refine ⟨fun pins s σ H Q I h => ?_⟩
  refine Subscript_ (thn (he.run pins s σ H _ I h) fun v s1 ⟨x, H1, I1, r1, q1⟩ => ?_)
  obtain ⟨a, xs, ex, hx, q⟩ := q1
  subst ex
  cases r1
  have hst : PO X (some (.UnaryOp .USub (.Constant (.int 1) k p1) p2)) (tPart (tUn (rU fun i => .int (-i)) (tC (.int 1)))) := po_some (pe_un un_neg pe_int)
  refine wpAny_Slice (thn (po_none.run pins s1 σ H1 (fun o H2 => o = none ∧ H2 = H1) I1 ⟨rfl, rfl⟩) fun vl s2 ⟨l, H2, I2, pl, el, e2⟩ => ?_)
  subst el e2
  refine thn (po_none.run pins s2 σ H2 (fun o H3 => o = none ∧ H3 = H2) I2 ⟨rfl, rfl⟩) fun vu s3 ⟨u, H3, I3, pu, eu, e3⟩ => ?_
  subst eu e3
  refine thn (hst.run pins s3 σ H3 (fun o H4 => o = some (-1) ∧ H4 = H3) I3 ⟨1, rfl, -1, rfl, rfl, rfl⟩) fun vs s4 ⟨o, H4, I4, ps, eo, e4⟩ => ?_
  subst eo e4
  cases pl
  cases pu
  cases ps with
  | int _ tk =>
    have I5 : Inv X pins σ H4 { s4 with heap := s4.heap.push { cls := .type "slice", data := .fields #[.none, .none, .int (-1) tk] } } := I4.kept (t' := s4.toks) fun b ob q => Heap.get?_push_of_some _ q
    obtain ⟨its, r, ht, hz⟩ := I5.tuple hx
    have hlen := r.length
    show wpAny (model X.prog X.w) X.A (subscriptTail e (.Slice none none (some (.UnaryOp .USub (.Constant (.int 1) k p1) p2)) p3) (.ref a) (.ref s4.heap.objs.size)) (EP X pins σ Q) X.xe { s4 with heap := s4.heap.push { cls := .type "slice", data := .fields #[.none, .none, .int (-1) tk] } }
    refine tail_any (ops := [.ref a, .ref s4.heap.objs.size]) ht.typeIs (PyProof.Rows.slot_tuple_getitem.lookup) ?_ (by with_unfolding_all rfl)
    refine getItem_rev ht (Heap.IsSliceOf.new _ .none .none (.int (-1) tk)) ?_ (by rw [List.size_toArray]; omega)
    refine ⟨.ref _, _, I5.laid (t' := s4.toks) (o := .tup xs.reverse) (fun b ob q => Heap.get?_push_of_some _ q) (Nat.le_refl _) ?_, rfl, q _ (I5.hok.fresh (Nat.le_refl _))⟩
    exact ⟨by rw [List.length_reverse]; exact hz, _, r.reverse, IsTup.new _ _⟩
end
end STx
namespace AL
open PySem PySem.Spec PyProof.Rows L2 LamX JW
def aRevT (a : ATE) : ATE := fun env L Q => a env L fun d L1 => tupE d fun l => Q (.tup l.reverse) L1
section
variable {X : Cx} {c : AC X.K} {H0 : Hp} {e : Expr} {a : ATE} {pos : Pos}
theorem ae_revT {k : Nat} {p1 p2 p3 : Pos} (h : AE X c H0 e a) : AE X c H0 (.Subscript e (.Slice none none (some (.UnaryOp .USub (.Constant (.int 1) k p1) p2)) p3) pos) (aRevT a) := by
  refine (STx.pe_revT h).imp fun σ H Q ⟨env, L, R, rl, h, pq⟩ => ?_
  refine ⟨env, L, _, rl, h, fun d L1 x H1 q s1 g1 r1 => ?_⟩
  cases d with
  | tup l =>
    obtain ⟨p, vs, rfl, e1, rs⟩ := rep_tup.mp r1
    exact ⟨p, vs, rfl, e1, fun r hr => (pq.fr s1).new hr q g1 (rep_tup.mpr ⟨r, _, rfl, SqT.of upd_same, rs.rev.fr (.new hr)⟩)⟩
  | _ => exact q.elim
end
end AL
namespace STx
open PySem PySem.Spec PyProof.Rows L2
section
variable {X : Cx} {tg : Expr}
def iSq (K : PySem.W.Frag) (tl : TE) : TI := fun σ H R => tl σ H fun x H1 => ∃ a, x = .ref a ∧ (((∃ xs, SqL K H1 a xs) ∧ R (Itl K a) H1) ∨ ((∃ xs, SqT K H1 a xs) ∧ R (Itt K a) H1))
theorem pi_sq {l : Expr} {tl : TE} (hl : PE X l tl) : PI X tg l (iSq X.K tl) := by
  refine ⟨fun pins s σ H R I h => thn (hl.run pins s σ H _ I h) fun v s1 ⟨x, H1, I1, r1, a, e, q⟩ => ?_⟩
  subst e
  cases r1
  have fresh : ∀ b ∈ [s1.heap.objs.size], FpOk X pins H1 b := fun b hb => by
    rw [List.mem_singleton.mp hb]
    exact I1.fpOk (Nat.le_refl _) (I1.hok.fresh (Nat.le_refl _))
  rcases q with ⟨⟨xs, hq⟩, q⟩ | ⟨⟨xs, hq⟩, q⟩
  · obtain ⟨its, rv, p, hz⟩ := I1.list hq
    exact wpAny_pyIter_list p.isList ⟨s1.heap.objs.size, [s1.heap.objs.size], _, _, H1, rfl, I1.kept (t' := s1.toks) fun b o e => Heap.get?_push_of_some _ e, turn_list a _, ⟨_, Heap.get?_push_size _ rfl, rfl, rfl⟩, fresh, q⟩
  · obtain ⟨its, rv, p, hz⟩ := I1.tuple hq
    exact wpAny_pyIter_tuple (show s1.heap.IsTuple a its.toArray from p) ⟨s1.heap.objs.size, [s1.heap.objs.size], _, _, H1, rfl, I1.kept (t' := s1.toks) fun b o e => Heap.get?_push_of_some _ e, turn_tuple a _, ⟨_, Heap.get?_push_size _ rfl, rfl, rfl⟩, fresh, q⟩
end
end STx
namespace AL
open PySem PySem.Spec PyProof.Rows L2 LamX JW
@[irreducible] def sqE (L : Store) (d : D) (R : List D → (Store → Prop) → Prop) : Prop := (∃ l, d = .tup l ∧ R l yes) ∨ ∃ p l, d = .ref p ∧ L p = some (.lst l) ∧ R l (lstAt p l)
def aiSq (a : ATE) : ATI := fun env L Q => a env L fun d L1 => sqE L1 d fun l G => Q l G L1
section
variable {X : Cx} {c : AC X.K} {H0 : Hp} {tg e : Expr} {a : ATE}
theorem ai_sq (h : AE X c H0 e a) : AI X c H0 tg e (aiSq a) := by
  refine (STx.pi_sq h).imp fun σ H Q ⟨env, L, R, rl, h, pq⟩ => ?_
  refine ⟨env, L, _, rl, h, fun d L1 x H1 q s1 g1 r1 => ?_⟩
  unfold sqE at q
  rcases q with ⟨l, rfl, q⟩ | ⟨p, l, rfl, e1, q⟩
  · obtain ⟨p, vs, rfl, e1, rs⟩ := rep_tup.mp r1
    exact ⟨p, rfl, .inr ⟨⟨vs, e1⟩, pq _ _ L1 _ H1 q s1 g1 (walkA_tup e1 rs)⟩⟩
  · cases rep_ref.mp r1
    obtain ⟨vs, e2, rs⟩ := good_lst g1 e1
    exact ⟨p, rfl, .inl ⟨⟨vs, SqL.of e2⟩, pq _ _ L1 _ H1 q s1 g1 (walkA_list g1 e1)⟩⟩
end
end AL
namespace AL
open PySem PySem.Spec PyProof.Rows L2 LamX JW
def kndA : D → Option Nat
  | .bl _ => some 0
  | .int _ => some 1
  | .str _ => some 2
  | _ => none
def pyA : D → PyData
  | .bl b => .bool b
  | .int i => .int i
  | .str s => .str s
  | _ => .none
def pyR : D → PyData
  | .tup l => .tuple (l.map pyA)
  | _ => .none
def RowD (sig : List Nat) (d : D) : Prop := ∃ l, d = .tup l ∧ l.map kndA = sig.map some
def srtR (ds : List D) : List D := ds.mergeSort (PySem.W.dataLe false pyR)
theorem srtR_perm (ds : List D) : (srtR ds).Perm ds := List.mergeSort_perm _ _
theorem alike_row : ∀ (sig : List Nat) (l m : List D), l.map kndA = sig.map some → m.map kndA = sig.map some → PySem.W.alikeAll (l.map pyA) (m.map pyA) = true
  | [], l, m, h1, h2 => by
    have e1 : l = [] := List.map_eq_nil_iff.mp h1
    subst e1
    simp [PySem.W.alikeAll]
  | x :: sig, [], m, h1, h2 => by simp at h1
  | x :: sig, _ :: _, [], h1, h2 => by simp at h2
  | x :: sig, a :: l, b :: m, h1, h2 => by
    simp only [List.map_cons, List.cons.injEq] at h1 h2
    have ih := alike_row sig l m h1.2 h2.2
    show PySem.W.alikeAll (pyA a :: l.map pyA) (pyA b :: m.map pyA) = true
    rw [PySem.W.alikeAll, ih, Bool.and_true]
    have e := h1.1.trans h2.1.symm
    have ha := h1.1
    cases a <;> cases b <;> first | (exfalso; revert e; simp [kndA]; done) | (exfalso; revert ha; simp [kndA]; done) | simp [pyA, PySem.W.alike]
theorem depth_row : ∀ l : List D, PyData.depthAll (l.map pyA) = 0
  | [] => by simp [PyData.depthAll]
  | a :: l => by
    show PyData.depthAll (pyA a :: l.map pyA) = 0
    rw [PyData.depthAll, depth_row l]
    cases a <;> simp [pyA, PyData.depth]
theorem reads_row {K : PySem.W.Frag} {c : AC K} {H : Hp} {h : Heap} : ∀ (sig : List Nat) (l : List D) (vs : List V) (us : List Value), l.map kndA = sig.map some → RepL c H l vs → Vals vs us → ReadsAll h us (l.map pyA) []
  | sig, [], vs, us, _, r, rv => by
    rw [repL_nil.mp r] at rv
    cases rv
    exact .nil
  | [], _ :: _, _, _, h1, _, _ => by simp at h1
  | x :: sig, a :: l, vs, us, h1, r, rv => by
    simp only [List.map_cons, List.cons.injEq] at h1
    obtain ⟨v, w, rfl, r1, r2⟩ := repL_cons.mp r
    cases rv with
    | cons q1 q2 =>
      have ih := reads_row (h := h) sig l w _ h1.2 r2 q2
      rw [List.map_cons]
      refine ReadsAll.cons (as := []) (bs := []) ?_ ih
      have ha := h1.1
      cases a with
      | bl b => cases rep_bl.mp r1; cases q1; exact .bool b
      | int i => cases rep_int.mp r1; obtain ⟨t, rfl⟩ := q1; exact .int i t
      | str z => cases rep_str.mp r1; obtain ⟨t, rfl⟩ := q1; exact .str z t
      | _ => exfalso; revert ha; simp [kndA]
def PairsR {K : PySem.W.Frag} (c : AC K) (H : Hp) (sig : List Nat) (zs : List (V × D)) : Prop := ∀ z ∈ zs, Rep c H z.2 z.1 ∧ RowD sig z.2
def zsort (zs : List (V × D)) : List (V × D) := zs.mergeSort (PySem.W.dataLe false fun z => pyR z.2)
def rSortedR {K : PySem.W.Frag} (c : AC K) : List V → Hp → VK → Prop := fun vs H Q => ∃ (a : Addr) (sig : List Nat) (zs : List (V × D)), vs = [V.ref a] ∧ SqL K H a (zs.map Prod.fst) ∧ zs.length ≤ 1000000 ∧ sig ≠ [] ∧ PairsR c H sig zs ∧
  ∀ p : Addr, H p = none → Q (.ref p) (upd H p (.lst ((zsort zs).map Prod.fst)))
theorem vals_each {us : List Value} : ∀ {zs : List (V × D)}, Vals (zs.map Prod.fst) us → PySem.W.EachIs (fun u z => RelV z.1 u) us zs := by
  induction us with
  | nil =>
    intro zs h
    cases zs with
    | nil => exact .nil
    | cons z zs => cases h
  | cons u us ih =>
    intro zs h
    cases zs with
    | nil => cases h
    | cons z zs =>
      rw [List.map_cons] at h
      cases h with
      | cons r t => exact .cons r (ih t)
theorem each_vals : ∀ {us : List Value} {zs : List (V × D)}, PySem.W.EachIs (fun u z => RelV z.1 u) us zs → Vals (zs.map Prod.fst) us
  | _, _, .nil => .nil
  | _, _, .cons h t => .cons h (each_vals t)
section
variable {X : Cx} {c : AC X.K} {H0 : Hp}
theorem cr_sortedR (hu : X.A.units + 64 < cLine) : CallR X (.builtin "sorted") (rSortedR c) := by
  intro pins s σ H vs us Q I r h
  obtain ⟨a, sig, zs, rfl, hs, hz, hsig, hp, q⟩ := h
  obtain ⟨its, rv, hl, _⟩ := I.list hs
  rw [Vals.ref1 r]
  have e0 := vals_each rv
  have hrd : ∀ u z, RelV z.1 u ∧ z ∈ zs → ∃ as, Reads s.heap u (pyR z.2) as := by
    rintro u z ⟨ru, hm⟩
    obtain ⟨r1, l, el, hk⟩ := hp z hm
    rw [el] at r1 ⊢
    obtain ⟨t, ws, ev, h1, h2⟩ := rep_tup.mp r1
    rw [ev] at ru
    cases ru
    obtain ⟨vs, rvs, ⟨o, g1, g2, n, g3⟩, _⟩ := I.tuple h1
    exact ⟨[], .tuple g1 g2 g3 (reads_row (c := c) (H := H) sig l ws vs hk h2 (by simpa using rvs))⟩
  have er : PySem.W.EachIs (fun v z => ∃ as, Reads s.heap v (pyR z.2) as) its zs := (PySem.W.each_mem e0).mono hrd
  have hal : PySem.W.AllAlike (zs.map fun z => pyR z.2) := by
    intro d hd d' hd'
    obtain ⟨z, hz1, rfl⟩ := List.mem_map.mp hd
    obtain ⟨z', hz2, rfl⟩ := List.mem_map.mp hd'
    obtain ⟨_, l, e1, k1⟩ := hp z hz1
    obtain ⟨_, l', e2, k2⟩ := hp z' hz2
    rw [e1, e2]
    show PySem.W.alike (.tuple _) (.tuple _) = true
    rw [PySem.W.alike]
    exact alike_row sig l l' k1 k2
  have hk : PySem.W.Sortable (zs.map fun z => pyR z.2) := .inl fun d hd => by
    obtain ⟨z, hz1, rfl⟩ := List.mem_map.mp hd
    obtain ⟨_, l, e1, k1⟩ := hp z hz1
    rw [e1]
    cases l with
    | nil =>
      exfalso
      rw [List.map_nil] at k1
      exact hsig (List.map_eq_nil_iff.mp k1.symm)
    | cons a l => exact ⟨_, _, rfl⟩
  refine PySem.W.sorted_data hl.isList e0 er hal hk (by rw [sizeLine_eq]; omega) (fun z hz1 => ?_) fun out ho eo => ?_
  · obtain ⟨_, l, e1, k1⟩ := hp z hz1
    rw [e1]
    show X.A.units + 2 + PyData.depth (.tuple (l.map pyA)) < cLine
    rw [PyData.depth, depth_row]
    omega
  · obtain ⟨ep, he'⟩ := PyProof.Rows.sortedAll_at s.heap its (List.toArray out)
    have hv := each_vals eo
    have hlen : ((zsort zs).map Prod.fst).length ≤ sizeLine := by
      unfold zsort
      rw [List.length_map, List.length_mergeSort, sizeLine_eq]
      omega
    exact ⟨.ref _, upd H (s.heap.objs.size + 1) (.lst ((zsort zs).map Prod.fst)), I.laid (t' := s.toks) (fun _ _ => PyProof.Rows.sortedAll_old) (Nat.le_succ _) ⟨hlen, out, ep, hv, he'⟩, rfl, q _ (I.hok.fresh (Nat.le_succ _))⟩
def sortedR : List D → Store → AQ → Prop
  | [.ref p], L, Q => ∃ (sig : List Nat) (ds : List D), L p = some (.lst ds) ∧ ds.length ≤ 1000000 ∧ sig ≠ [] ∧ (∀ d ∈ ds, RowD sig d) ∧ ∀ r, L r = none → Q (.ref r) (sput L r (.lst (srtR ds)))
  | _, _, _ => False
theorem repL_zip {H : Hp} : ∀ {ds : List D} {ws : List V}, RepL c H ds ws → ∃ zs : List (V × D), zs.map Prod.fst = ws ∧ zs.map Prod.snd = ds ∧ ∀ z ∈ zs, Rep c H z.2 z.1
  | [], ws, r => ⟨[], (repL_nil.mp r).symm, rfl, fun z h => absurd h List.not_mem_nil⟩
  | d :: ds, ws, r => by
    obtain ⟨v, w, rfl, r1, r2⟩ := repL_cons.mp r
    obtain ⟨zs, e1, e2, h⟩ := repL_zip r2
    refine ⟨(v, d) :: zs, by rw [List.map_cons, e1], by rw [List.map_cons, e2], fun z hz => ?_⟩
    rcases List.mem_cons.mp hz with rfl | hz
    · exact r1
    · exact h z hz
theorem repL_unzip {H : Hp} : ∀ {zs : List (V × D)}, (∀ z ∈ zs, Rep c H z.2 z.1) → RepL c H (zs.map Prod.snd) (zs.map Prod.fst)
  | [], _ => repL_nil.mpr rfl
  | z :: zs, h => repL_cons.mpr ⟨_, _, rfl, h z List.mem_cons_self, repL_unzip fun y hy => h y (List.mem_cons_of_mem _ hy)⟩
theorem acb_sortedR (hu : X.A.units + 64 < cLine) : ACB X c (.builtin "sorted") sortedR := by
  refine .mk' (cr_sortedR (c := c) hu) fun vs H Q ds L R r g h pq => ?_
  unfold sortedR at h
  split at h
  · rename_i p
    obtain ⟨v, rfl, r1⟩ := repL_one r
    cases rep_ref.mp r1
    obtain ⟨sig, ds, e0, hz, hsig, hd, h⟩ := h
    obtain ⟨ws, e1, rs⟩ := good_lst g e0
    obtain ⟨zs, z1, z2, z3⟩ := repL_zip rs
    subst z1
    subst z2
    rw [List.length_map] at hz
    refine ⟨p, sig, zs, rfl, SqL.of e1, hz, hsig, fun z hm => ⟨z3 z hm, hd _ (List.mem_map.mpr ⟨z, hm, rfl⟩)⟩, fun q hq => pq.alloc hq (h q (g.fresh hq)) g ⟨_, upd_same, ?_⟩⟩
    have e2 : srtR (zs.map Prod.snd) = (zsort zs).map Prod.snd := (PySem.W.sort_maps (f := Prod.snd) (r := PySem.W.dataLe false fun z : V × D => pyR z.2) (s := PySem.W.dataLe false pyR) fun _ _ _ _ => rfl).symm
    rw [e2]
    have z4 : ∀ z ∈ zsort zs, Rep c H z.2 z.1 := fun z hm => z3 z ((List.mergeSort_perm zs _).mem_iff.mp hm)
    exact (repL_unzip z4).fr (.new hq)
  · exact h.elim
end
end AL
namespace JW
open PySem PySem.Spec PyProof.Rows L2 LamX AL
theorem size_one {t : T} (h : t.size = 1) : t = .jet ∨ t = .bas [] := by
  cases t with
  | jet => exact .inl rfl
  | bas l =>
    cases l with
    | nil => exact .inr rfl
    | cons a r =>
      exfalso
      have h1 : 1 + (a.size + sizeL r) = 1 := h
      have := size_pos a
      omega
theorem op_two {q : T} (h : Op q) (hp : Prm q) : 2 ≤ q.size := by
  have h0 := size_pos q
  by_cases e : q.size = 1
  · exfalso
    rcases size_one e with e | e
    · rw [e] at hp
      have : ([] : List T) = [.jet] := hp
      cases this
    · rw [e] at h
      exact h.2 rfl
  · omega
theorem prod_ge : ∀ {l : List T}, (∀ q ∈ l, Op q) → 1 + (l.map fun q => q.size - 1).sum ≤ (prodT l).size
  | [], _ => Nat.le_refl _
  | t :: r, h => by
    have hr : ∀ q ∈ r, Op q := fun q hq => h q (List.mem_cons_of_mem _ hq)
    have ih := prod_ge hr
    rw [prod_cons fun u hu => (h u hu).1, List.map_cons, List.sum_cons]
    have h1 := grf_size (prodT r) t
    have h2 := jts_le t
    have h3 := (h t List.mem_cons_self).2
    obtain ⟨j, hj⟩ : ∃ j, t.jts = j + 1 := ⟨t.jts - 1, by omega⟩
    have h4 := size_pos (prodT r)
    have h5 : j * 1 ≤ j * (prodT r).size := Nat.mul_le_mul_left j h4
    rw [hj, Nat.succ_mul] at h1
    omega
theorem sum_len {l : List T} (h : ∀ q ∈ l, 2 ≤ q.size) : l.length ≤ (l.map fun q => q.size - 1).sum := by
  induction l with
  | nil => exact Nat.le_refl _
  | cons a l ih =>
    have h1 := h a List.mem_cons_self
    have h2 := ih fun q hq => h q (List.mem_cons_of_mem _ hq)
    rw [List.length_cons, List.map_cons, List.sum_cons]
    omega
theorem sum_big {l : List T} : (l.filter fun q => decide (3 < q.size)).length * 3 ≤ (l.map fun q => q.size - 1).sum := by
  induction l with
  | nil => exact Nat.le_refl _
  | cons a l ih =>
    rw [List.filter_cons, List.map_cons, List.sum_cons]
    by_cases e : 3 < a.size
    · rw [if_pos (decide_eq_true e), List.length_cons]
      omega
    · rw [if_neg (by simp only [decide_eq_true_eq]; exact e)]
      omega
theorem word_ops {t : T} (h : Op t) : ∀ q ∈ t.word, Op q ∧ Prm q := fun q hq => ⟨(word_prod t h).2 q hq, word_prime t h q hq⟩
theorem word_sum {t : T} (h : Op t) : 1 + (t.word.map fun q => q.size - 1).sum ≤ t.size := by
  have := prod_ge (l := t.word) fun q hq => (word_ops h q hq).1
  rwa [(word_prod t h).1] at this
theorem word_short {t : T} (h : Op t) : t.word.length + 1 ≤ t.size := by
  have h1 := word_sum h
  have h2 := sum_len (l := t.word) fun q hq => op_two (word_ops h q hq).1 (word_ops h q hq).2
  omega
theorem word_big {t : T} (h : Op t) : (t.word.filter fun q => decide (3 < q.size)).length * 3 + 1 ≤ t.size := by
  have h1 := word_sum h
  have h2 := sum_big (l := t.word)
  omega
theorem word_mem_le {t q : T} (h : Op t) (hq : q ∈ t.word) : q.size ≤ t.size ∧ q.dep ≤ t.dep := by
  have := mem_prod_le (l := t.word) (fun q hq => (word_ops h q hq).1) hq
  rwa [(word_prod t h).1] at this
def smallP : List T := [.bas [.jet], .bas [.jet, .jet], .bas [.bas [], .jet], .bas [.bas [.jet]]]
theorem small_mem {p : T} (h : Op p) (h2 : 2 ≤ p.size) (h3 : p.size ≤ 3) : p ∈ smallP := by
  obtain ⟨hc, hj⟩ := h
  cases p with
  | jet => exact absurd h2 (by decide)
  | bas l =>
    cases l with
    | nil => exact absurd rfl hj
    | cons a r =>
      have e1 : 1 + (a.size + sizeL r) ≤ 3 := h3
      have pa := size_pos a
      cases r with
      | nil =>
        have e2 : 1 + (a.size + 0) ≤ 3 := h3
        cases a with
        | jet => simp [smallP]
        | bas m =>
          cases m with
          | nil => exact absurd rfl hj
          | cons b m =>
            have e3 : 1 + ((1 + (b.size + sizeL m)) + 0) ≤ 3 := h3
            have pb := size_pos b
            have hm : m = [] := by
              have := length_le m
              cases m with
              | nil => rfl
              | cons x y =>
                exfalso
                have e4 : sizeL (x :: y) = x.size + sizeL y := rfl
                have := size_pos x
                omega
            subst hm
            rcases size_one (t := b) (by have : sizeL ([] : List T) = 0 := rfl; omega) with e | e
            · subst e
              simp [smallP]
            · subst e
              exact absurd rfl hj
      | cons b r =>
        have e2 : 1 + (a.size + (b.size + sizeL r)) ≤ 3 := h3
        have pb := size_pos b
        have hr : r = [] := by
          cases r with
          | nil => rfl
          | cons x y =>
            exfalso
            have e4 : sizeL (x :: y) = x.size + sizeL y := rfl
            have := size_pos x
            omega
        subst hr
        rcases size_one (t := a) (by omega) with ea | ea <;> rcases size_one (t := b) (by omega) with eb | eb <;> subst ea <;> subst eb
        · simp [smallP]
        · exfalso
          have h5 : Srt [T.jet, .bas []] := hc.1
          have h6 := (List.pairwise_cons.mp h5).1 (.bas []) (by simp)
          revert h6
          decide +kernel
        · simp [smallP]
        · exact absurd rfl hj
def prsOf (ts : List T) : List T := smallP ++ (ts.map fun t => t.word.filter fun q => decide (3 < q.size)).flatten
theorem prs_mem {ts : List T} {t q : T} (ht : t ∈ ts) (h : Op t) (hq : q ∈ t.word) : q ∈ prsOf ts := by
  unfold prsOf
  by_cases e : 3 < q.size
  · exact List.mem_append_right _ (List.mem_flatten.mpr ⟨_, List.mem_map.mpr ⟨t, ht, rfl⟩, List.mem_filter.mpr ⟨hq, decide_eq_true e⟩⟩)
  · have h1 := word_ops h q hq
    exact List.mem_append_left _ (small_mem h1.1 (op_two h1.1 h1.2) (by omega))
theorem prs_len (n : Nat) : ∀ {ts : List T}, (∀ t ∈ ts, Op t ∧ t.size ≤ 3 * n + 3) → (prsOf ts).length ≤ 4 + n * ts.length := by
  intro ts h
  unfold prsOf
  rw [List.length_append]
  have : ((ts.map fun t => t.word.filter fun q => decide (3 < q.size)).flatten).length ≤ n * ts.length := by
    induction ts with
    | nil => exact Nat.le_refl _
    | cons t ts ih =>
      have h1 := h t List.mem_cons_self
      have h2 := word_big h1.1
      have h3 := ih fun u hu => h u (List.mem_cons_of_mem _ hu)
      rw [List.map_cons, List.flatten_cons, List.length_append, List.length_cons, Nat.mul_succ]
      omega
  have e : smallP.length = 4 := rfl
  omega
theorem prs_app (a b : List T) : (prsOf (a ++ b)).length + 4 = (prsOf a).length + (prsOf b).length := by
  unfold prsOf
  rw [List.map_append, List.flatten_append]
  simp only [List.length_append]
  have e : smallP.length = 4 := rfl
  omega
theorem prs_all {ts : List T} (h : ∀ t ∈ ts, Op t ∧ t.size ≤ 100) : ∀ p ∈ prsOf ts, Can p ∧ p.size ≤ 5000 ∧ p.dep ≤ 120 := by
  intro p hp
  unfold prsOf at hp
  rcases List.mem_append.mp hp with hp | hp
  · have : ∀ p ∈ smallP, p.size ≤ 5000 ∧ p.dep ≤ 120 := by decide +kernel
    refine ⟨?_, this p hp⟩
    have s1 : Srt [T.jet] := List.pairwise_singleton _ _
    have s2 : Srt [T.jet, .jet] := by decide +kernel
    have s3 : Srt [T.bas [], .jet] := by decide +kernel
    have s4 : Srt [T.bas [.jet]] := List.pairwise_singleton _ _
    unfold smallP at hp
    simp only [List.mem_cons, List.not_mem_nil, or_false] at hp
    rcases hp with rfl | rfl | rfl | rfl
    · exact ⟨s1, trivial, trivial⟩
    · exact ⟨s2, trivial, trivial, trivial⟩
    · exact ⟨s3, ⟨List.Pairwise.nil, trivial⟩, trivial, trivial⟩
    · exact ⟨s4, ⟨s1, trivial, trivial⟩, trivial⟩
  · obtain ⟨l, hl, hq⟩ := List.mem_flatten.mp hp
    obtain ⟨t, ht, rfl⟩ := List.mem_map.mp hl
    have hw := (List.mem_filter.mp hq).1
    obtain ⟨h1, h2⟩ := h t ht
    have h3 := word_mem_le h1 hw
    have h4 := dep_le_size p
    exact ⟨((word_ops h1 p hw).1).1, by omega, by omega⟩
theorem namN_eq (e : List JW.T) (n : Nd) : namN e n = (e, n.own, n.rest) :: (n.br.map fun q => namN (q.1 :: e) q.2).flatten := by
  have hl : ∀ l : List (JW.T × Nd), namL e l = (l.map fun q => namN (q.1 :: e) q.2).flatten := by
    intro l
    induction l with
    | nil => simp [namL]
    | cons q l ih =>
      obtain ⟨p, n⟩ := q
      simp [namL, ih]
  cases n with
  | mk o r b => simp only [namN, hl, Nd.own, Nd.rest, Nd.br]
def AllP (P : List T → Prop) (e : List T) (n : Nd) : Prop := ∀ q ∈ namN e n, P q.1
theorem allP_iff {P : List T → Prop} {e : List T} {n : Nd} : AllP P e n ↔ P e ∧ ∀ q ∈ n.br, AllP P (q.1 :: e) q.2 := by
  unfold AllP
  rw [namN_eq]
  constructor
  · intro h
    exact ⟨h _ List.mem_cons_self, fun q hq z hz => h z (List.mem_cons_of_mem _ (List.mem_flatten.mpr ⟨_, List.mem_map.mpr ⟨q, hq, rfl⟩, hz⟩))⟩
  · rintro ⟨h1, h2⟩ z hz
    rcases List.mem_cons.mp hz with rfl | hz
    · exact h1
    · obtain ⟨l, hl, hz⟩ := List.mem_flatten.mp hz
      obtain ⟨q, hq, rfl⟩ := List.mem_map.mp hl
      exact h2 q hq z hz
section
variable {P : List T → Prop}
theorem allP_uni {e : List T} (v : Bool) (h : P e) : AllP P e (Nd.uni v) := allP_iff.mpr ⟨h, fun q hq => absurd hq List.not_mem_nil⟩
theorem allP_sub {e : List T} {n : Nd} {p : T} (h : AllP P e n) (hp : P (p :: e)) : AllP P (p :: e) (n.sub p) := by
  unfold Nd.sub
  split
  · rename_i q eq
    have h1 := (allP_iff.mp h).2 q (List.mem_of_find?_eq_some eq)
    have h2 : q.1 = p := by simpa using List.find?_some eq
    rw [h2] at h1
    exact h1
  · exact allP_uni _ hp
theorem allP_trim {e : List T} {o r : Bool} {b : List (T × Nd)} (h : P e) (hb : ∀ q ∈ b, AllP P (q.1 :: e) q.2) : AllP P e (Nd.trim o r b) := allP_iff.mpr ⟨h, fun q hq => hb q (List.mem_filter.mp hq).1⟩
theorem allP_jn (s : Str) : ∀ (k : Nat) {e : List T} {x y : Nd}, AllP P e x → AllP P e y → AllP P e (Nd.jn s k x y)
  | 0, e, x, y, h1, _ => allP_iff.mpr ⟨(allP_iff.mp h1).1, fun q hq => absurd hq List.not_mem_nil⟩
  | k + 1, e, x, y, h1, h2 => by
    refine allP_trim (allP_iff.mp h1).1 fun q hq => ?_
    obtain ⟨p, hp, rfl⟩ := List.mem_map.mp hq
    have hP : P (p :: e) := by
      rcases ((Nd.both_nd x y).2 p).mp hp with z | z
      · obtain ⟨r, hr, er⟩ := List.mem_map.mp z
        rw [← er]
        exact (allP_iff.mp ((allP_iff.mp h1).2 r hr)).1
      · obtain ⟨r, hr, er⟩ := List.mem_map.mp z
        rw [← er]
        exact (allP_iff.mp ((allP_iff.mp h2).2 r hr)).1
    exact allP_jn s k (allP_sub h1 hP) (allP_sub h2 hP)
theorem endN_snoc (n : Nd) (w : List T) (p : T) : n.endN (w ++ [p]) = Nd.trim false false [(p, n.endN w)] := by
  unfold Nd.endN
  rw [List.foldl_append]
  rfl
theorem allP_endR (n : Nd) : ∀ (v : List T) {e : List T}, (∀ u, u <:+ v.reverse → P (u ++ e)) → AllP P (v.reverse ++ e) n → AllP P e (n.endN v.reverse)
  | [], e, _, h => h
  | p :: v, e, hu, h => by
    rw [List.reverse_cons] at hu h ⊢
    rw [endN_snoc]
    refine allP_trim (hu [] (List.nil_suffix)) fun q hq => ?_
    rw [List.mem_singleton.mp hq]
    refine allP_endR n v (fun u h2 => ?_) (by rw [List.append_assoc] at h; exact h)
    have := hu (u ++ [p]) (by obtain ⟨z, hz⟩ := h2; exact ⟨z, by rw [← List.append_assoc, hz]⟩)
    rwa [List.append_assoc] at this
theorem allP_endN {n : Nd} {w : List T} (hu : ∀ u, u <:+ w → P u) (h : AllP P w n) : AllP P [] (n.endN w) := by
  have := allP_endR (P := P) n w.reverse (e := []) (fun u h2 => by rw [List.reverse_reverse] at h2; rw [List.append_nil]; exact hu u h2) (by rw [List.reverse_reverse, List.append_nil]; exact h)
  rwa [List.reverse_reverse] at this
end
def EndOK (u : List T) : Prop := (∀ p ∈ u, Can p ∧ p.size ≤ 5000) ∧ (prodT u).size ≤ 5000 ∧ (prodT u).dep ≤ 120
theorem end_suf {t : T} (h : Op t) (hz : t.size ≤ 100) {u : List T} (hu : u <:+ t.word) : EndOK u := by
  obtain ⟨v, e⟩ := hu
  have hw := word_ops h
  have hm : ∀ p ∈ u, p ∈ t.word := fun p hp => by rw [← e]; exact List.mem_append_right _ hp
  have hv : ∀ p ∈ v, p ∈ t.word := fun p hp => by rw [← e]; exact List.mem_append_left _ hp
  have e2 := (word_prod t h).1
  rw [← e, prod_app (fun p hp => (hw p (hv p hp)).1.1) (fun p hp => (hw p (hm p hp)).1.1)] at e2
  have h1 := grf_ge (p := prodT u) (t := prodT v) (prod_open fun p hp => (hw p (hv p hp)).1.2)
  rw [e2] at h1
  have h2 := dep_le_size t
  refine ⟨fun p hp => ⟨(hw p (hm p hp)).1.1, ?_⟩, by omega, by omega⟩
  have := (word_mem_le h (hm p hp)).1
  omega
mutual
theorem nam_len (e f : List T) : ∀ n : Nd, (namN e n).length = (namN f n).length
  | .mk o r b => by
    simp only [namN, List.length_cons]
    rw [namL_len e f b]
theorem namL_len (e f : List T) : ∀ l : List (T × Nd), (namL e l).length = (namL f l).length
  | [] => rfl
  | (p, n) :: l => by
    simp only [namL, List.length_append]
    rw [namL_len e f l, nam_len (p :: e) (p :: f) n]
end
def cnt (n : Nd) : Nat := (namN [] n).length
theorem cnt_eq (n : Nd) : cnt n = 1 + (n.br.map fun q => cnt q.2).sum := by
  unfold cnt
  rw [namN_eq, List.length_cons, List.length_flatten, List.map_map, Nat.add_comm]
  congr 2
  exact List.map_congr_left fun q _ => nam_len _ _ _
theorem cnt_uni (v : Bool) : cnt (Nd.uni v) = 1 := by rw [cnt_eq]; rfl
theorem sum_ind (a : T) (c : Nat) : ∀ {l : List T}, l.Nodup → (l.map fun p => if a = p then c else 0).sum ≤ c
  | [], _ => Nat.zero_le _
  | x :: l, h => by
    obtain ⟨h1, h2⟩ := List.nodup_cons.mp h
    rw [List.map_cons, List.sum_cons]
    by_cases e : a = x
    · rw [if_pos e]
      have : (l.map fun p => if a = p then c else 0).sum = 0 := by
        have hz : ∀ l : List T, a ∉ l → (l.map fun p => if a = p then c else 0).sum = 0 := by
          intro l
          induction l with
          | nil => intro _; rfl
          | cons y l ih =>
            intro hn
            rw [List.mem_cons, not_or] at hn
            rw [List.map_cons, List.sum_cons, if_neg hn.1, ih hn.2]
        exact hz l (by rw [e]; exact h1)
      omega
    · rw [if_neg e]
      have := sum_ind a c h2
      omega
def cntB (br : List (T × Nd)) (p : T) : Nat := (br.map fun q => if q.1 = p then cnt q.2 else 0).sum
theorem sum_add {α : Type} (f g : α → Nat) : ∀ l : List α, (l.map fun p => f p + g p).sum = (l.map f).sum + (l.map g).sum
  | [] => rfl
  | x :: l => by
    simp only [List.map_cons, List.sum_cons]
    rw [sum_add f g l]
    omega
theorem sum_cntB {l : List T} (h : l.Nodup) : ∀ br : List (T × Nd), (l.map (cntB br)).sum ≤ (br.map fun q => cnt q.2).sum
  | [] => by
    have : ∀ l : List T, (l.map (cntB [])).sum = 0 := by
      intro l
      induction l with
      | nil => rfl
      | cons x l ih => rw [List.map_cons, List.sum_cons, ih]; rfl
    rw [this]
    exact Nat.zero_le _
  | q :: br => by
    have e : (l.map (cntB (q :: br))) = l.map fun p => (if q.1 = p then cnt q.2 else 0) + cntB br p := List.map_congr_left fun p _ => by
      unfold cntB
      rw [List.map_cons, List.sum_cons]
    rw [e, sum_add, List.map_cons, List.sum_cons]
    have h1 := sum_ind q.1 (cnt q.2) h
    have h2 := sum_cntB h br
    omega
theorem cntB_mem {br : List (T × Nd)} {q : T × Nd} (h : q ∈ br) : cnt q.2 ≤ cntB br q.1 := by
  induction br with
  | nil => exact absurd h List.not_mem_nil
  | cons x br ih =>
    unfold cntB
    rw [List.map_cons, List.sum_cons]
    rcases List.mem_cons.mp h with rfl | h
    · rw [if_pos rfl]
      exact Nat.le_add_right _ _
    · exact Nat.le_trans (ih h) (Nat.le_add_left _ _)
theorem cnt_sub (n : Nd) (p : T) : cnt (n.sub p) ≤ cntB n.br p + 1 ∧ (p ∈ n.br.map (·.1) → cnt (n.sub p) ≤ cntB n.br p) := by
  unfold Nd.sub
  split
  · rename_i q eq
    have h1 := List.mem_of_find?_eq_some eq
    have h2 : q.1 = p := by simpa using List.find?_some eq
    have h3 := cntB_mem h1
    rw [h2] at h3
    exact ⟨by omega, fun _ => h3⟩
  · rename_i eq
    refine ⟨by rw [cnt_uni]; omega, fun hm => ?_⟩
    obtain ⟨q, hq, e⟩ := List.mem_map.mp hm
    exact absurd (decide_eq_true e) (List.find?_eq_none.mp eq q hq)
theorem sum_le {α : Type} {f g : α → Nat} : ∀ {l : List α}, (∀ x ∈ l, f x ≤ g x) → (l.map f).sum ≤ (l.map g).sum
  | [], _ => Nat.le_refl _
  | x :: l, h => by
    rw [List.map_cons, List.map_cons, List.sum_cons, List.sum_cons]
    have h1 := h x List.mem_cons_self
    have h2 := sum_le fun y hy => h y (List.mem_cons_of_mem _ hy)
    omega
theorem sum_filter {α : Type} (f : α → Nat) (c : α → Bool) : ∀ l : List α, ((l.filter c).map f).sum ≤ (l.map f).sum
  | [] => Nat.le_refl _
  | x :: l => by
    rw [List.filter_cons]
    have ih := sum_filter f c l
    split
    · rw [List.map_cons, List.map_cons, List.sum_cons, List.sum_cons]
      omega
    · rw [List.map_cons, List.sum_cons]
      omega
theorem cnt_pos (n : Nd) : 1 ≤ cnt n := by rw [cnt_eq]; omega
theorem cnt_jn (s : Str) : ∀ (k : Nat) (x y : Nd), cnt (Nd.jn s k x y) + 1 ≤ cnt x + cnt y
  | 0, x, y => by
    have h1 := cnt_pos x
    have h2 := cnt_pos y
    have e : cnt (Nd.jn s 0 x y) = 1 := by rw [cnt_eq]; rfl
    omega
  | k + 1, x, y => by
    obtain ⟨hn, hm⟩ := Nd.both_nd x y
    have e : cnt (Nd.jn s (k + 1) x y) ≤ 1 + ((Nd.both x y).map fun p => cntB x.br p + cntB y.br p).sum := by
      rw [cnt_eq]
      refine Nat.add_le_add_left (Nat.le_trans (sum_filter (fun q : T × Nd => cnt q.2) _ _) ?_) 1
      rw [List.map_map]
      refine sum_le fun p hp => ?_
      show cnt (Nd.jn s k (x.sub p) (y.sub p)) ≤ _
      have ih := cnt_jn s k (x.sub p) (y.sub p)
      have h1 := cnt_sub x p
      have h2 := cnt_sub y p
      rcases (hm p).mp hp with z | z
      · have := h1.2 z
        omega
      · have := h2.2 z
        omega
    rw [sum_add] at e
    have h1 := sum_cntB hn x.br
    have h2 := sum_cntB hn y.br
    rw [cnt_eq x, cnt_eq y]
    omega
theorem cnt_endN (n : Nd) (w : List T) : cnt (n.endN w) ≤ cnt n + w.length := by
  have : ∀ v : List T, cnt (n.endN v.reverse) ≤ cnt n + v.length := by
    intro v
    induction v with
    | nil => exact Nat.le_refl _
    | cons p v ih =>
      rw [List.reverse_cons, endN_snoc, cnt_eq, List.length_cons]
      have := sum_filter (fun q : T × Nd => cnt q.2) (fun q => !Nd.isUni false q.2) [(p, n.endN v.reverse)]
      rw [List.map_singleton, List.sum_singleton] at this
      have e : (Nd.trim false false [(p, n.endN v.reverse)]).br = [(p, n.endN v.reverse)].filter (fun q => !Nd.isUni false q.2) := rfl
      rw [e]
      have e2 : cnt ((p, n.endN v.reverse) : T × Nd).2 = cnt (n.endN v.reverse) := rfl
      rw [e2] at this
      omega
  have h := this w.reverse
  rwa [List.reverse_reverse, List.length_reverse] at h
namespace Nd
theorem wf_jnK {S : List T} (s : Str) : ∀ {k j : Nat} {m n : Nd}, k ≤ j → Wf S k m → Wf S k n → Wf S k (jn s (j + 1) m n)
  | 0, j, m, n, _, h1, h2 => by
    have e1 : m.br = [] := h1
    have e2 : n.br = [] := h2
    have e : both m n = [] := by
      have h := (both_nd m n).2
      rw [e1, e2] at h
      exact List.eq_nil_iff_forall_not_mem.mpr fun x hx => by simpa using (h x).mp hx
    show (trim _ _ ((both m n).map _)).br = []
    rw [e]; rfl
  | k + 1, j, m, n, hk, h1, h2 => by
    obtain ⟨i, rfl⟩ : ∃ i, j = i + 1 := ⟨j - 1, by omega⟩
    have hm : ∀ x ∈ both m n, x ∈ S := fun x hx => ((both_nd m n).2 x).mp hx |>.elim (fun z => (wf_names h1).2 x z) fun z => (wf_names h2).2 x z
    refine wf_trim ?_ fun q hq => ?_
    · rw [List.map_map]
      show ((both m n).map id).Nodup
      rw [List.map_id]
      exact (both_nd m n).1
    · obtain ⟨p, hp, e⟩ := List.mem_map.mp hq
      rw [← e]
      exact ⟨hm p hp, wf_jnK s (by omega) (wf_sub h1 p) (wf_sub h2 p)⟩
end Nd
def ofN (ts : List T) : Nd := ts.foldl (fun n t => Nd.jn "|" 21 n ((Nd.mk true false []).endN t.word)) (Nd.uni false)
theorem wf_ofN {S : List T} {k : Nat} (hk : k ≤ 20) : ∀ (ts : List T) {n : Nd}, Nd.Wf S k n → (∀ t ∈ ts, t.word.length ≤ k ∧ ∀ p ∈ t.word, p ∈ S) → Nd.Wf S k (ts.foldl (fun n t => Nd.jn "|" 21 n ((Nd.mk true false []).endN t.word)) n)
  | [], n, h, _ => h
  | t :: ts, n, h, ht => by
    have h1 := ht t List.mem_cons_self
    have h2 : Nd.Wf S k ((Nd.mk true false []).endN t.word) := (Nd.wf_endN t.word (k := 0) (show (Nd.mk true false []).br = [] from rfl) h1.2).mono (by omega)
    exact wf_ofN hk ts (Nd.wf_jnK "|" hk h h2) fun u hu => ht u (List.mem_cons_of_mem _ hu)
theorem allP_ofN {P : List T → Prop} : ∀ (ts : List T) {n : Nd}, AllP P [] n → (∀ t ∈ ts, ∀ u, u <:+ t.word → P u) → AllP P [] (ts.foldl (fun n t => Nd.jn "|" 21 n ((Nd.mk true false []).endN t.word)) n)
  | [], n, h, _ => h
  | t :: ts, n, h, ht => by
    have h1 := ht t List.mem_cons_self
    exact allP_ofN ts (allP_jn "|" 21 h (allP_endN h1 (allP_iff.mpr ⟨h1 _ (List.suffix_refl _), fun q hq => absurd hq List.not_mem_nil⟩))) fun u hu => ht u (List.mem_cons_of_mem _ hu)
theorem cnt_ofN {k : Nat} : ∀ (ts : List T) {n : Nd}, (∀ t ∈ ts, t.word.length ≤ k) → cnt (ts.foldl (fun n t => Nd.jn "|" 21 n ((Nd.mk true false []).endN t.word)) n) ≤ cnt n + k * ts.length
  | [], n, _ => by simp
  | t :: ts, n, ht => by
    have h1 := ht t List.mem_cons_self
    have h2 := cnt_jn "|" 21 n ((Nd.mk true false []).endN t.word)
    have h3 := cnt_endN (Nd.mk true false []) t.word
    have e : cnt (Nd.mk true false []) = 1 := by rw [cnt_eq]; rfl
    have h4 := cnt_ofN ts (n := Nd.jn "|" 21 n ((Nd.mk true false []).endN t.word)) fun u hu => ht u (List.mem_cons_of_mem _ hu)
    rw [List.foldl_cons, List.length_cons, Nat.mul_succ]
    omega
structure KOk (S : List T) (k c : Nat) (n : Nd) : Prop where
  wf : Nd.Wf S k n
  en : AllP EndOK [] n
  ct : cnt n ≤ c
theorem endOK_nil : EndOK [] := ⟨fun _ h => absurd h List.not_mem_nil, by decide +kernel, by decide +kernel⟩
theorem KOk.uni (S : List T) (v : Bool) (k : Nat) {c : Nat} (h : 1 ≤ c) : KOk S k c (Nd.uni v) := ⟨Nd.wf_uni S v k, allP_uni v endOK_nil, by rw [cnt_uni]; exact h⟩
theorem KOk.jn {S : List T} {k c d : Nat} {x y : Nd} (s : Str) (hk : k ≤ 20) (h1 : KOk S k c x) (h2 : KOk S k d y) : KOk S k (c + d) (Nd.jn s 21 x y) :=
  ⟨Nd.wf_jnK s hk h1.wf h2.wf, allP_jn s 21 h1.en h2.en, by have := cnt_jn s 21 x y; have := h1.ct; have := h2.ct; omega⟩
theorem KOk.mono {S : List T} {k j c d : Nat} {x : Nd} (h : KOk S k c x) (h1 : k ≤ j) (h2 : c ≤ d) : KOk S j d x := ⟨h.wf.mono h1, h.en, by have := h.ct; omega⟩
theorem KOk.ending {S : List T} {k : Nat} {t : T} (v : Bool) (h : Op t) (hz : t.size ≤ 100) (hk : t.word.length ≤ k) (hS : ∀ p ∈ t.word, p ∈ S) : KOk S k (k + 1) ((Nd.uni v).endN t.word) :=
  ⟨(Nd.wf_endN t.word (Nd.wf_uni S v 0) hS).mono (by omega), allP_endN (fun u hu => end_suf h hz hu) (allP_uni v (end_suf h hz (List.suffix_refl _))), by have := cnt_endN (Nd.uni v) t.word; rw [cnt_uni] at this; omega⟩
theorem KOk.of {S : List T} {k : Nat} {ts : List T} (hk : k ≤ 20) (h : ∀ t ∈ ts, Op t ∧ t.size ≤ 100 ∧ t.word.length ≤ k ∧ ∀ p ∈ t.word, p ∈ S) : KOk S k (1 + k * ts.length) (ofN ts) :=
  ⟨wf_ofN hk ts (Nd.wf_uni S false k) fun t ht => (h t ht).2.2, allP_ofN ts (allP_uni false endOK_nil) fun t ht u hu => end_suf (h t ht).1 (h t ht).2.1 hu, by
    have := cnt_ofN (k := k) ts (n := Nd.uni false) fun t ht => (h t ht).2.2.1
    rw [cnt_uni] at this
    exact this⟩
end JW
namespace JW
open PySem PySem.Spec PyProof.Rows L2 AL
open He
structure Txt (K : PySem.W.Frag) (mg : Str → Option Value) (base : Heap) : Prop where
  cls : ClsF K mg
  o_Kind : ClsO K mg "Kind"
  na_Kind_node : NoAttr K (He.ga K "Kind") "node"
  gMOST : ∃ t, mg "MOST" = some (.int (5000) t)
  gDEEPEST : ∃ t, mg "DEEPEST" = some (.int (120) t)
  gJET_TEXT : ∃ t, mg "JET_TEXT" = some (.str ("o") t)
  e_Closed : ErrAt K mg "Closed" (He.ga K "Closed") "Closed.__init__" s_Closed___init__ ["self"]
  e_TooLarge : ErrAt K mg "TooLarge" (He.ga K "TooLarge") "TooLarge.__init__" s_TooLarge___init__ ["self", "pieces"]
  na_TooLarge : PySem.W.findIn K (.ref (He.ga K "TooLarge")) "pieces" = some none
  e_TooDeep : ErrAt K mg "TooDeep" (He.ga K "TooDeep") "TooDeep.__init__" s_TooDeep___init__ ["self", "basins"]
  na_TooDeep : PySem.W.findIn K (.ref (He.ga K "TooDeep")) "basins" = some none
  d_check_numbers : DefAt K mg "check_numbers" "check_numbers" s_check_numbers [] ["numbers"]
  d_basin_numbers : DefAt K mg "basin_numbers" "basin_numbers" s_basin_numbers [] ["branches"]
  d_product_numbers : DefAt K mg "product_numbers" "product_numbers" s_product_numbers [] ["one", "other"]
  d_parsed : DefAt K mg "parsed" "parsed" s_parsed [] ["text"]
  d_made : DefAtP K mg "made" "made" s_made ["branches"]
  tb_made : LamX.TabB base mg (He.cT K ("made", none)).1 (He.cT K ("made", none)).2
  d_allowed : DefAt K mg "allowed" "allowed" s_allowed [] ["fountain"]
  d_grafted : DefAt K mg "grafted" "grafted" s_grafted [] ["fountain", "part"]
  d_cut : DefAt K mg "cut" "cut" s_cut [] ["fountain", "part"]
  d_bare_place : DefAt K mg "bare_place" "bare_place" s_bare_place [] ["fountain", "part", "path"]
  d_carries : DefAt K mg "carries" "carries" s_carries [] ["fountain", "part"]
  d_multiplied : DefAt K mg "multiplied" "multiplied" s_multiplied [] ["factors"]
  init : InitAt K mg "Fountain" (cF K) "Fountain.__init__" s_Fountain___init__ [.non] ["self", "text", "branches"]
  c_basin : CmAt K (cF K) "basin" "Fountain.basin" s_Fountain_basin ["cls", "parts"]
  c_spray : CmAt K (cF K) "spray" "Fountain.spray" s_Fountain_spray ["cls", "count"]
  c_product : CmAt K (cF K) "product" "Fountain.product" s_Fountain_product ["cls", "parts"]
  p_text : PropAt K (cF K) "text" "Fountain.text" s_Fountain_text
  p_parts : PropAt K (cF K) "parts" "Fountain.parts" s_Fountain_parts
  p_size : PropAt K (cF K) "size" "Fountain.size" s_Fountain_size
  p_jets : PropAt K (cF K) "jets" "Fountain.jets" s_Fountain_jets
  p_depth : PropAt K (cF K) "depth" "Fountain.depth" s_Fountain_depth
  p_longest : PropAt K (cF K) "longest" "Fountain.longest" s_Fountain_longest
  p_shortest : PropAt K (cF K) "shortest" "Fountain.shortest" s_Fountain_shortest
  p_is_open : PropAt K (cF K) "is_open" "Fountain.is_open" s_Fountain_is_open
  p_is_jet : PropAt K (cF K) "is_jet" "Fountain.is_jet" s_Fountain_is_jet
  m___eq__ : MethAt K (cF K) "__eq__" "Fountain.__eq__" s_Fountain___eq__ ["self", "other"]
  m___repr__ : MethAt K (cF K) "__repr__" "Fountain.__repr__" s_Fountain___repr__ ["self"]
  m___len__ : MethAt K (cF K) "__len__" "Fountain.__len__" s_Fountain___len__ ["self"]
  m___getitem__ : MethAt K (cF K) "__getitem__" "Fountain.__getitem__" s_Fountain___getitem__ ["self", "at"]
  m___contains__ : MethAt K (cF K) "__contains__" "Fountain.__contains__" s_Fountain___contains__ ["self", "part"]
  m___add__ : MethAt K (cF K) "__add__" "Fountain.__add__" s_Fountain___add__ ["self", "other"]
  m___sub__ : MethAt K (cF K) "__sub__" "Fountain.__sub__" s_Fountain___sub__ ["self", "other"]
  m___mul__ : MethAt K (cF K) "__mul__" "Fountain.__mul__" s_Fountain___mul__ ["self", "other"]
  m___floordiv__ : MethAt K (cF K) "__floordiv__" "Fountain.__floordiv__" s_Fountain___floordiv__ ["self", "other"]
  m_at : MethAt K (cF K) "at" "Fountain.at" s_Fountain_at ["self", "path"]
  m_put : MethAt K (cF K) "put" "Fountain.put" s_Fountain_put ["self", "path", "part"]
  d_need_open : StarAt K mg "need_open" "need_open" s_need_open [] "fountains"
  d_shared_tail : DefAt K mg "shared_tail" "shared_tail" s_shared_tail [] ["words"]
  d_open_branches : DefAt K mg "open_branches" "open_branches" s_open_branches [] ["fountain"]
  d_word_and_ends : DefAt K mg "word_and_ends" "word_and_ends" s_word_and_ends [] ["fountain"]
  d_word_of : DefAt K mg "word_of" "word_of" s_word_of [] ["fountain"]
  d_uniform : DefAt K mg "uniform" "uniform" s_uniform [] ["value"]
  d_trimmed : DefAt K mg "trimmed" "trimmed" s_trimmed [] ["own", "rest", "branches"]
  d_below : DefAt K mg "below" "below" s_below [] ["node", "prime"]
  d_decided : DefAt K mg "decided" "decided" s_decided [] ["sign", "one", "other"]
  d_joined : DefAt K mg "joined" "joined" s_joined [] ["sign", "one", "other"]
  d_ended : DefAt K mg "ended" "ended" s_ended [] ["node", "fountain"]
  d_started : DefAt K mg "started" "started" s_started [] ["node", "fountain"]
  d_named : DefAt K mg "named" "named" s_named [] ["node", "end"]
  init_Kind : InitAt K mg "Kind" (He.ga K "Kind") "Kind.__init__" s_Kind___init__ [] ["self", "node"]
  c_Kind_ending : CmAt K (He.ga K "Kind") "ending" "Kind.ending" s_Kind_ending ["cls", "b"]
  c_Kind_of : CmAt K (He.ga K "Kind") "of" "Kind.of" s_Kind_of ["cls", "parts"]
  c_Kind_every : CmAt K (He.ga K "Kind") "every" "Kind.every" s_Kind_every ["cls"]
  c_Kind_none : CmAt K (He.ga K "Kind") "none" "Kind.none" s_Kind_none ["cls"]
  m_Kind___eq__ : MethAt K (He.ga K "Kind") "__eq__" "Kind.__eq__" s_Kind___eq__ ["self", "other"]
  m_Kind___or__ : MethAt K (He.ga K "Kind") "__or__" "Kind.__or__" s_Kind___or__ ["self", "other"]
  m_Kind___and__ : MethAt K (He.ga K "Kind") "__and__" "Kind.__and__" s_Kind___and__ ["self", "other"]
  m_Kind___sub__ : MethAt K (He.ga K "Kind") "__sub__" "Kind.__sub__" s_Kind___sub__ ["self", "other"]
  m_Kind___xor__ : MethAt K (He.ga K "Kind") "__xor__" "Kind.__xor__" s_Kind___xor__ ["self", "other"]
  m_Kind___mul__ : MethAt K (He.ga K "Kind") "__mul__" "Kind.__mul__" s_Kind___mul__ ["self", "other"]
  m_Kind___floordiv__ : MethAt K (He.ga K "Kind") "__floordiv__" "Kind.__floordiv__" s_Kind___floordiv__ ["self", "other"]
  m_Kind_form : MethAt K (He.ga K "Kind") "form" "Kind.form" s_Kind_form ["self"]
  d__law_feed : DefAt K mg "_law_feed" "_law_feed" s__law_feed [] ["_law_script", "_law_k"]
  d__law_draw : DefAt K mg "_law_draw" "_law_draw" s__law_draw [] ["_law_feed_here", "_law_limit"]
  d__law_mixed : DefAt K mg "_law_mixed" "_law_mixed" s__law_mixed [] ["_law_feed_here", "_law_items"]
  d__law_norm : DefAt K mg "_law_norm" "_law_norm" s__law_norm [] ["_law_text"]
  d__law_size : DefAt K mg "_law_size" "_law_size" s__law_size [] ["_law_text"]
  d__law_grown : DefAt K mg "_law_grown" "_law_grown" s__law_grown [] ["_law_feed_here", "_law_room"]
  d__law_open : DefAt K mg "_law_open" "_law_open" s__law_open [] ["_law_feed_here", "_law_room"]
  d__law_closed : DefAt K mg "_law_closed" "_law_closed" s__law_closed [] ["_law_feed_here", "_law_room"]
  d__law_refused : DefAt K mg "_law_refused" "_law_refused" s__law_refused [] ["_law_form", "_law_kind", "_law_part", "_law_parts"]
  d_law : DefAt K mg "law" "law" s_law [] ["_law_script"]
  b_JetError : mg "JetError" = some (.ref (He.ga K "JetError")) ∧ InitBy K (He.ga K "JetError")
  e_JetError : BaseAt mg "JetError" (He.ga K "JetError")
  e_Endless : BaseAt mg "Endless" (He.ga K "Endless")
  e_NoDivision : BaseAt mg "NoDivision" (He.ga K "NoDivision")
  k_Closed_Closed : PySem.W.kitOne K (.ref (He.ga K "Closed")) (.ref (He.ga K "Closed")) = some true
  k_Closed_Endless : PySem.W.kitOne K (.ref (He.ga K "Closed")) (.ref (He.ga K "Endless")) = some false
  k_Closed_NoDivision : PySem.W.kitOne K (.ref (He.ga K "Closed")) (.ref (He.ga K "NoDivision")) = some false
  x_Closed_JetError : PySem.W.exmOne K (.ref (He.ga K "Closed")) (.ref (He.ga K "JetError")) = some true
  ny_Kind : ¬ (He.ga K "Kind" = He.ga K "Fountain")
  xk_mul : PySem.W.findIn K (.ref (He.ga K "Kind")) "__rmul__" = some none
  xk_floordiv : PySem.W.findIn K (.ref (He.ga K "Kind")) "__rfloordiv__" = some none
  xf_mul : PySem.W.findIn K (.ref (He.ga K "Fountain")) "__rmul__" = some none
  xf_floordiv : PySem.W.findIn K (.ref (He.ga K "Fountain")) "__rfloordiv__" = some none
  xs_Kind : PySem.W.subIn K (.ref (He.ga K "Fountain")) (.ref (He.ga K "Kind")) = some false
  n_NotImplemented : mg "NotImplemented" = none
  n_TypeError : mg "TypeError" = none
  n_abs : mg "abs" = none
  n_all : mg "all" = none
  n_any : mg "any" = none
  n_bool : mg "bool" = none
  n_enumerate : mg "enumerate" = none
  n_int : mg "int" = none
  n_isinstance : mg "isinstance" = none
  n_len : mg "len" = none
  n_list : mg "list" = none
  n_max : mg "max" = none
  n_min : mg "min" = none
  n_range : mg "range" = none
  n_sorted : mg "sorted" = none
  n_sum : mg "sum" = none
  n_tuple : mg "tuple" = none
abbrev TT (K : PySem.W.Frag) : List (Addr × Str) := [((He.cT K ("made", none)).2, ("made.<locals>." : Str) ++ "<lambda>")]
abbrev cA (K : PySem.W.Frag) (scr : Option (Addr × List Int)) : AL.AC K := ⟨TT K, [], scr⟩
section
variable {P : Program} {w : World} {K : PySem.W.Frag} {mg : Str → Option Value} {base : Heap}
def sp__law_feed (K : PySem.W.Frag) : Sp := fun vs H Q _ => ∃ (a : Addr) (ns : List Int) (i : Nat), vs = [.ref a, .int i] ∧ SqL K H a (ns.map V.int) ∧ ns.length ≤ 63 ∧ i ≤ 10 ∧ ∀ H' d, Same H H' → H d = none → FeedAt H' d → Q (.ref d) H'
theorem ok__law_feed  (T : Txt K mg base) : CallD P w K mg base CX0 2 "_law_feed" ["_law_script", "_law_k"] [] (sp__law_feed K) := by
  refine T.d__law_feed.ok sc__law_feed (fun vs H Q E h => ?_) (fun f cdv A outer s H vs Q E hr h => ?_)
  · obtain ⟨a, ns, i, rfl, _⟩ := h
    rfl
  · obtain ⟨a, ns, i0, rfl, hS, hn, hi, k⟩ := h
    refine ⟨_, (pss_cons (ps_set (i := 2) sc__law_feed.nd rfl (by first | exact Or.inl rfl | exact Or.inr rfl) (pe_op op_add (pe_op op_mul pe_int (pv 1)) pe_int))
      (pss_cons (ps_via (ps_if (pt_cmpR op_lt (pv 1) (pe_callB call_len (by rfl) T.n_len (by decide +kernel) (pa_cons (pv 0) pa_nil)) (nomark _))
        (pss_one (ps_set (i := 2) sc__law_feed.nd rfl (by first | exact Or.inl rfl | exact Or.inr rfl) (pe_callB call_abs (by rfl) T.n_abs (by decide +kernel) (pa_cons (pe_ix ix_list (pv 0) (pv 1) (fun _ _ => rfl)) pa_nil))))
        (pss_one (ps_via (ps_if (pt_cmpR op_gt (pe_callB call_len (by rfl) T.n_len (by decide +kernel) (pa_cons (pv 0) pa_nil)) pe_int (nomark _))
          (pss_one (ps_set (i := 2) sc__law_feed.nd rfl (by first | exact Or.inl rfl | exact Or.inr rfl) (pe_op op_add (pv 2) (pe_op op_mul (pe_op op_mod (pe_callB call_abs (by rfl) T.n_abs (by decide +kernel) (pa_cons (pe_ix ix_list (pv 0) (pe_op op_mod (pv 1) (pe_callB call_len (by rfl) T.n_len (by decide +kernel) (pa_cons (pv 0) pa_nil))) (fun _ _ => rfl)) pa_nil)) pe_int) pe_int))))
          pss_nil)))))
      (pss_cons (ps_set (i := 3) sc__law_feed.nd rfl (by first | exact Or.inl rfl | exact Or.inr rfl) (pe_op op_add (pe_op op_mod (pe_op op_add (pe_op op_add (pe_op op_mul (pe_op op_mod (pv 2) pe_int) pe_int) (pe_op op_mul pe_int (pv 1))) pe_int) pe_int) pe_int))
      (pss_one (ps_ret (pe_disp (pps_cons pe_str (pe_ix ix_list (pe_lst (pa_cons pe_int (pa_cons (pv 2) pa_nil))) (pe_callTy call_int1 (by rfl) T.n_int (by decide +kernel) (pa_cons (pe_cmpR op_ge (pv 2) (pe_op op_pow pe_int pe_int) (nomark _)) pa_nil)) (fun _ _ => rfl)) (pps_cons pe_str (pv 3) (pps_cons pe_str pe_int pps_nil))) (by rfl) (by rfl) (fun z => by cases z) (by decide))))))), ?_⟩
    have hsl := sizeLine_eq
    have hat : ∀ j : Nat, j < ns.length → atI (ns.map V.int) (j : Nat) = some (.int (ns.getD j 0)) := fun j hj => atI_nat (by rw [List.getElem?_map, List.getElem?_eq_getElem hj, List.getD_eq_getElem?_getD, List.getElem?_eq_getElem hj]; rfl)
    have hml : (ns.map V.int).length = ns.length := List.length_map _
    refine ⟨_, rfl, _, _, rfl, rfl, .inl (by decide), _, _, rfl, rfl, fun σ' H' => ∃ c : Int, σ' = [some (.ref a), some (.int i0), some (.int c), none] ∧ H' = H, ?_, ?_⟩
    · refine ⟨_, rfl, .ref a, rfl, _, _, rfl, .inl ⟨_, hS, rfl⟩, _, _, rfl, rfl, _, rfl, ite2 (fun e => ?_) fun e => ?_⟩
      · have e1 := of_decide_eq_true e
        rw [hml] at e1
        exact ⟨.ref a, rfl, .int i0, rfl, a, _, _, _, rfl, rfl, hS, hat i0 (by omega), _, rfl, _, rfl, rfl⟩
      · refine ⟨fun σ' H' => ∃ c : Int, σ' = [some (.ref a), some (.int i0), some (.int c), none] ∧ H' = H, ⟨.ref a, rfl, _, _, rfl, .inl ⟨_, hS, rfl⟩, _, _, rfl, rfl, _, rfl, ite2 (fun e1 => ?_) fun e1 => ?_⟩, fun σ' H' z => z⟩
        · have e2 := of_decide_eq_true e1
          rw [hml] at e2
          have hm : ((i0 : Nat) : Int) % ((ns.map V.int).length : Nat) = ((i0 % ns.length : Nat) : Int) := by rw [hml]; rfl
          exact ⟨_, rfl, .ref a, rfl, .int i0, rfl, .ref a, rfl, _, _, rfl, .inl ⟨_, hS, rfl⟩, _, _, rfl, rfl, by rw [hml]; exact e2, a, _, _, _, rfl, rfl, hS, by rw [hm]; exact hat _ (Nat.mod_lt _ (by omega)), _, rfl, _, _, rfl, rfl, by show (0 : Int) < 2147483629; decide, _, _, rfl, rfl, .inr (by decide), _, _, rfl, rfl, _, rfl, rfl⟩
        · exact ⟨_, rfl, rfl⟩
    rintro σ' H' ⟨c, rfl, rfl⟩
    refine ⟨_, rfl, _, _, rfl, rfl, by show (0 : Int) < 2147483629; decide, _, _, rfl, rfl, .inr (by decide), _, rfl, _, _, rfl, rfl, .inl (by decide), _, _, rfl, rfl, _, _, rfl, rfl, _, _, rfl, rfl, by show (0 : Int) < 2147483629; decide, _, _, rfl, rfl, fun p hp => ?_⟩
    refine ⟨_, rfl, sz2, fun q hq => ⟨_, rfl, _, _, rfl, rfl, ⟨by decide, by decide, by decide⟩, _, _, rfl, rfl, .inr ⟨_, rfl, ?_⟩⟩⟩
    obtain ⟨v, hv⟩ : ∃ v : Int, atI [V.int 0, V.int c] (if decide ((10 : Int) ^ (18 : Int).toNat ≤ c) = true then 1 else 0) = some (.int v) := by
      split
      · exact ⟨c, rfl⟩
      · exact ⟨0, rfl⟩
    have npq : p ≠ q := ne_of_none upd_same hq
    refine ⟨q, _, _, _, rfl, rfl, SqL.of upd_same, hv, _, rfl, ?_, feedD v _ 0, rfl, by show 3 ≤ 15; decide, ?_⟩
    · rw [upd_ne npq, upd_same]
    rw [feed_made]
    refine k _ p ((((Same.refl H').new hp).new hq).mine hp) hp ⟨v, _, 0, upd_same⟩
def asp__law_feed : ASp
  | [.scr, .int i], L, Q, _ => 0 ≤ i ∧ i ≤ 10 ∧ ∀ d, L d = none → Q (.ref d) (sput L d feedM)
  | _, _, _, _ => False
theorem okA__law_feed (T : Txt K mg base) {scr : Option (Addr × List Int)} : CallD P w K mg base CX0 2 "_law_feed" ["_law_script", "_law_k"] [] (spA (cA K scr) asp__law_feed) :=
  (ok__law_feed T).imp fun vs H Q E ⟨ds, L, R, RX, r, g, h, pq, px⟩ => by
    unfold asp__law_feed at h
    split at h
    · rename_i i
      obtain ⟨h1, h2, h⟩ := h
      obtain ⟨v, w, rfl, r1, r2⟩ := repL_two r
      obtain ⟨a, ns, e1, rfl⟩ := rep_scr.mp r1
      cases rep_int.mp r2
      refine ⟨a, ns, i.toNat, by rw [Int.toNat_of_nonneg h1], g.seq e1, (g.scr a ns e1).1, by omega, fun H' d s' hd f' => ?_⟩
      exact pq _ _ _ H' (h d (g.fresh hd)) (.same s') (g.sameNew s' hd (feed_m f')) (rep_ref.mpr rfl)
    · exact h.elim

def sp__law_draw : Sp := fun vs H Q _ => ∃ (d : Addr) (many : Int), vs = [.ref d, .int many] ∧ FeedAt H d ∧ 0 < many ∧ many < 1073741824 ∧ ∀ (v : Int) H', 0 ≤ v → v < many → FeedAt H' d → SamD d H H' → Q (.int v) H'
theorem ok__law_draw  (T : Txt K mg base) : CallD P w K mg base CX0 2 "_law_draw" ["_law_feed_here", "_law_limit"] [] (sp__law_draw) := by
  refine T.d__law_draw.ok sc__law_draw (fun vs H Q E h => ?_) (fun f cdv A outer s H vs Q E hr h => ?_)
  · obtain ⟨d, many, rfl, _⟩ := h
    rfl
  · obtain ⟨d, many, rfl, ⟨a, b, c, hd⟩, h0, h1, k⟩ := h
    refine ⟨_, (pss_cons (ps_if (pt_cmpR op_gt (pe_dget (hu_of hr) (pv 0) pe_str (fun _ _ => rfl)) pe_int (nomark _))
        (pss_cons (ps_set (i := 2) sc__law_draw.nd rfl (by first | exact Or.inl rfl | exact Or.inr rfl) (pe_op op_mod (pe_dget (hu_of hr) (pv 0) pe_str (fun _ _ => rfl)) (pv 1)))
        (pss_cons (ps_dput (hu_of hr) (pv 0) pe_str (pe_op op_fdiv (pe_dget (hu_of hr) (pv 0) pe_str (fun _ _ => rfl)) (pv 1)) rfl)
        (pss_one (ps_ret (pv 2)))))
        pss_nil)
      (pss_cons (ps_dput (hu_of hr) (pv 0) pe_str (pe_op op_add (pe_dget (hu_of hr) (pv 0) pe_str (fun _ _ => rfl)) pe_int) rfl)
      (pss_cons (ps_set (i := 3) sc__law_draw.nd rfl (by first | exact Or.inl rfl | exact Or.inr rfl) (pe_op op_mod (pe_op op_mul (pe_op op_add (pe_dget (hu_of hr) (pv 0) pe_str (fun _ _ => rfl)) (pe_op op_mul pe_int (pe_dget (hu_of hr) (pv 0) pe_str (fun _ _ => rfl)))) pe_int) pe_int))
      (pss_cons (ps_dput (hu_of hr) (pv 0) pe_str (pe_op op_add (pe_op op_mod (pe_op op_add (pe_op op_mul (pv 3) pe_int) pe_int) pe_int) pe_int) rfl)
      (pss_one (ps_ret (pe_op op_mod (pe_op op_fdiv (pe_op op_add (pe_op op_mul (pv 3) pe_int) (pe_dget (hu_of hr) (pv 0) pe_str (fun _ _ => rfl))) pe_int) (pv 1)))))))), ?_⟩
    -- if feed['digits'] > 0: ..
    refine ⟨.ref d, rfl, d, _, rfl, dget hd feed_digits, _, _, rfl, rfl, _, rfl, ite2 (fun e => ?_) (fun _ => ?_)⟩
    · refine ⟨.ref d, rfl, d, _, rfl, dget hd feed_digits, _, rfl, _, _, rfl, rfl, h0, ?_⟩
      refine ⟨.ref d, rfl, d, _, rfl, dget hd feed_digits, _, rfl, _, _, rfl, rfl, ⟨h0, h1⟩, .ref d, rfl, d, _, rfl, dput hd feed_len feed_put_digits, _, rfl, ?_⟩
      exact k _ _ (Int.emod_nonneg _ (by omega)) (Int.emod_lt_of_pos _ h0) ⟨_, b, c, upd_same⟩ (SamD.refl d H).put
    -- feed['turn'] = feed['turn'] + 1 ..
    refine ⟨.ref d, rfl, d, _, rfl, dget hd feed_turn, _, _, rfl, rfl, .ref d, rfl, d, _, rfl, dput hd feed_len feed_put_turn, ?_⟩
    have hd2 : upd H d (.dK (feedD a b (c + 1))) d = some (.dK (feedD a b (c + 1))) := upd_same
    have s2 : SamD d H (upd H d (.dK (feedD a b (c + 1)))) := (SamD.refl d H).put
    generalize upd H d (.dK (feedD a b (c + 1))) = H2 at hd2 s2 ⊢
    refine ⟨.ref d, rfl, d, _, rfl, dget hd2 feed_seed, .ref d, rfl, d, _, rfl, dget hd2 feed_turn, _, _, rfl, rfl, .inl (by decide), _, _, rfl, rfl, _, _, rfl, rfl, .inr (by decide), _, _, rfl, rfl, by show (0 : Int) < 2147483647; decide, ?_⟩
    refine ⟨_, rfl, _, _, rfl, rfl, .inr (by decide), _, _, rfl, rfl, _, _, rfl, rfl, by show (0 : Int) < 2147483629; decide, _, _, rfl, rfl, .ref d, rfl, d, _, rfl, dput hd2 feed_len feed_put_seed, ?_⟩
    refine ⟨_, rfl, _, _, rfl, rfl, .inr (by decide), .ref d, rfl, d, _, rfl, dget upd_same feed_seed, _, _, rfl, rfl, _, _, rfl, rfl, ⟨by decide, by decide⟩, _, rfl, _, _, rfl, rfl, h0, ?_⟩
    exact k _ _ (Int.emod_nonneg _ (by omega)) (Int.emod_lt_of_pos _ h0) ⟨a, _, _, upd_same⟩ s2.put
def asp__law_draw : ASp
  | [.ref d, .int n], L, Q, _ => L d = some feedM ∧ 0 < n ∧ n < 1073741824 ∧ ∀ x : Int, 0 ≤ x → x < n → Q (.int x) L
  | _, _, _, _ => False
theorem okA__law_draw (T : Txt K mg base) {scr : Option (Addr × List Int)} : CallD P w K mg base CX0 2 "_law_draw" ["_law_feed_here", "_law_limit"] [] (spA (cA K scr) asp__law_draw) :=
  (ok__law_draw T).imp fun vs H Q E ⟨ds, L, R, RX, r, g, h, pq, px⟩ => by
    unfold asp__law_draw at h
    split at h
    · obtain ⟨h1, h2, h3, h⟩ := h
      obtain ⟨v, w, rfl, r1, r2⟩ := repL_two r
      cases rep_ref.mp r1
      cases rep_int.mp r2
      refine ⟨_, _, rfl, feed_at g h1, h2, h3, fun x H' x0 x1 f' s' => ?_⟩
      obtain ⟨g', fr⟩ := g.but h1 (Tabs.samD g.tabs (feed_at g h1) s') s' (feed_m f')
      exact pq _ L _ H' (h x x0 x1) fr g' (rep_int.mpr rfl)
    · exact h.elim

def sp_eq (K : PySem.W.Frag) : Sp := fun vs H Q _ => ∃ v t w u, vs = [v, w] ∧ Ftn (cF K) H t v ∧ Ftn (cF K) H u w ∧ Q (.bl (decide (t = u))) H
theorem eq_of {K : PySem.W.Frag} {H : Hp} {Q : VK} {E : XK} {x y : V} {t u : T} {neg : Bool} (hx : Ftn (cF K) H t x) (hy : Ftn (cF K) H u y) (q : Q (.bl (if neg then !decide (t = u) else decide (t = u))) H) : rOwnEq (cF K) (sp_eq K) E neg x y H Q := by
  obtain ⟨a, dx, b, n, vs, rfl, ha, _⟩ := ftn_iff.mp hx
  obtain ⟨a2, dx2, b2, n2, vs2, rfl, ha2, _⟩ := ftn_iff.mp hy
  exact ⟨a, dx, _, a2, dx2, _, rfl, rfl, ha, ha2, _, t, _, u, rfl, hx, hy, _, rfl, q⟩
theorem ok_Fountain___eq__  (T : Txt K mg base) : MethD P w K mg base CX0 1 (cF K) "__eq__" ["self", "other"] [] (sp_eq K) := by
  refine T.m___eq__.ok sc_Fountain___eq__ (fun vs H Q E h => ?_) (fun f cdv A outer s H vs Q E hr h => ?_)
  · obtain ⟨v, t, w, u, rfl, _⟩ := h
    rfl
  · obtain ⟨v, t, w, u, rfl, hv, hw, k⟩ := h
    obtain ⟨a, dx, b, n, vs, rfl, ha, hb, hn, hk⟩ := ftn_iff.mp hv
    obtain ⟨a2, dx2, b2, n2, vs2, rfl, ha2, hb2, hn2, hk2⟩ := ftn_iff.mp hw
    refine ⟨_, (pss_one (ps_ret (pe_and (pe_callB call_isi (by rfl) T.n_isinstance (by decide +kernel) (pa_cons (pv 1) (pa_cons (pe_glob (v := .ref (cF K)) rfl T.cls.g rfl) pa_nil))) (pe_one (pe_cmpR op_eq (pe_fld (pv 0) rfl) (pe_fld (pv 1) rfl) (nomark _)))))), ?_⟩
    refine ⟨.ref a2, rfl, .ref a2, .ref (cF K), _, _, true, rfl, .own _, T.cls.ty ha2, isi_self, true, rfl, ite_t rfl ⟨.ref a, rfl, a, _, dx, _, _, rfl, ha, T.cls.c, T.cls.nw, fl_w, .ref a2, rfl, a2, _, dx2, _, _, rfl, ha2, T.cls.c, T.cls.nw, fl_w, rfl, ?_⟩⟩
    rw [show decide (V.str (tx t) = V.str (tx u)) = decide (t = u) from decide_eq_decide.mpr ⟨fun z => tx_inj (V.str.inj z), fun z => by rw [z]⟩]
    exact k
theorem okF_eq (T : Txt K mg base) : MethD P w K mg base CX0 1 (cF K) "__eq__" ["self", "other"] [] (spEqF K) := (ok_Fountain___eq__ T).imp fun vs H Q E ⟨x, y, t, u, e, h1, h2, q⟩ => ⟨x, t, y, u, e, h1, h2, q⟩

theorem depDL_of {l : List D} {n : Nat} (h : ∀ x ∈ l, depD x ≤ n) : depDL l ≤ n := by
  induction l with
  | nil => exact Nat.zero_le _
  | cons x l ih =>
    show max (depD x) (depDL l) ≤ n
    have h1 := h x List.mem_cons_self
    have h2 := ih fun y hy => h y (List.mem_cons_of_mem _ hy)
    omega
theorem dep_memD {l : List D} {x : D} (h : x ∈ l) : depD x ≤ depDL l := by
  obtain ⟨i, hi, e⟩ := List.getElem_of_mem h
  exact depDL_get (i := i) (by rw [List.getElem?_eq_getElem hi, e])
theorem listD_of {x : D} {l : List D} {L : Store} {Q : AQ} (h : x = .tup l ∨ ∃ p, x = .ref p ∧ L p = some (.lst l)) (q : ∀ r, L r = none → Q (.ref r) (sput L r (.lst l))) : listD [x] L Q := by
  rcases h with e | ⟨p, e, hp⟩
  · subst e
    exact q
  · subst e
    exact ⟨l, hp, q⟩
def asp__law_mixed : ASp
  | [.ref d, x], L, Q, _ => L d = some feedM ∧ ∃ l : List D, (x = .tup l ∨ ∃ p, x = .ref p ∧ L p = some (.lst l)) ∧ l.length ≤ 1000 ∧ depDL l ≤ 70 ∧ ∀ (m : List D) r, m.Perm l → L r = none → Q (.ref r) (sput L r (.lst m))
  | _, _, _, _ => False
theorem okA__law_mixed  (T : Txt K mg base) {scr : Option (Addr × List Int)} : CallD P w K mg base CX0 76 "_law_mixed" ["_law_feed_here", "_law_items"] [] (spA (cA K scr) (asp__law_mixed)) := by
  refine T.d__law_mixed.okA sc__law_mixed ?len (fun f cdv A outer s H E hr => (as_cons (as_par (i := 2) (j := 3) (by rfl) sc__law_mixed.nd rfl rfl (by decide) rfl rfl (aa_cons (ae_ty acb_list (by rfl) T.n_list (by decide +kernel) (aa_cons (av 1) aa_nil)) (aa_cons (ae_lst aa_nil) aa_nil)) (by rfl))
      (as_cons (as_while PassesOwn.never (at_cmp (aop_neG T.cls (okF_eq T) (hr.mono (by decide)) hr.units) (av 2) (ae_lst aa_nil) (nomark _))
        (as_one (as_expr (ae_ml PySem.F.plainAttrs_list PySem.F.slot_list_append PySem.F.type_list_append mt_append low_append (av 3) (aa_cons (ae_ml PySem.F.plainAttrs_list PySem.F.slot_list_pop PySem.F.type_list_pop mt_popAt low_popAt (av 2) (aa_cons (ae_call (okA__law_draw T) (hr.mono (by decide)) (by rfl) (aa_cons (av 0) (aa_cons (ae_b acb_len (by rfl) T.n_len (by decide +kernel) (aa_cons (av 2) aa_nil)) aa_nil))) aa_nil)) aa_nil)))))
      (as_one (as_ret (av 3)))))) ?vc
  case len =>
    intro ds L R RX h
    unfold asp__law_mixed at h
    split at h <;> first | rfl | exact h.elim
  case vc =>
    intro ds L R RX h
    unfold asp__law_mixed at h
    split at h
    · rename_i d x
      obtain ⟨hd, l, hx, hz, hp, h⟩ := h
      have hsl := sizeLine_eq
      refine listD_of hx fun P hP => ⟨Nat.zero_le _, fun F hF => ?_⟩
      have hPF : P ≠ F := fun e => by rw [e, sput_same] at hF; cases hF
      have hF0 : L F = none := by
        rw [sput_ne (Ne.symm hPF)] at hF
        exact hF
      refine ⟨fun m env L1 => ∃ xs fs : List D, env = [some (.ref d), some x, some (.ref P), some (.ref F)] ∧ L1 P = some (.lst xs) ∧ L1 F = some (.lst fs) ∧ SubS L L1 ∧ (fs ++ xs).Perm l ∧ m = xs.length, ⟨_, l, [], rfl, sput_old sput_same hF, sput_same, ((SubS.refl L).new hP).new hF, List.Perm.refl _, rfl⟩, ?_⟩
      rintro m env L1 ⟨xs, fs, rfl, hP1, hF1, sb, pm, rfl⟩
      have hlen := pm.length_eq
      rw [List.length_append] at hlen
      have hdx : depDL xs ≤ 70 := depDL_of fun y hy => Nat.le_trans (dep_memD (pm.subset (List.mem_append_right _ hy))) hp
      refine ⟨Nat.zero_le _, fun r hr => ⟨_, _, sput_old hP1 hr, sput_same, eqSq_nil hdx (ite2 (fun e => ?_) (fun e => ?_))⟩⟩
      rotate_left
      · cases xs with
        | nil =>
          rw [List.append_nil] at pm
          refine ret_sub (h fs F pm hF0) (show SubS (sput L F (.lst fs)) (sput L1 r (.lst [])) from fun q n hq => ?_)
          by_cases e : q = F
          · rw [e] at hq ⊢
            rw [sput_same] at hq
            rw [sput_old hF1 hr, hq]
          · rw [sput_ne e] at hq
            exact (sb.new hr) _ _ hq
        | cons y ys => exact absurd rfl e
      have hP2 := sput_old (n := .lst []) hP1 hr
      have hF2 := sput_old (n := .lst []) hF1 hr
      have sb2 := sb.new (m := .lst []) hr
      generalize sput L1 r (.lst []) = L2 at hP2 hF2 sb2
      cases xs with
      | nil => cases e
      | cons y ys =>
        have hyl : (y :: ys).length = ys.length + 1 := rfl
        refine ⟨⟨F, _, rfl, hF2⟩, ⟨P, _, rfl, hP2⟩, _, hP2, sb2 _ _ hd, by omega, by omega, fun v v0 v1 => ?_⟩
        have hv : v.toNat < (y :: ys).length := by omega
        refine ⟨_, v.toNat, (y :: ys)[v.toNat], hP2, by omega, by omega, seqIndex_nat v0 v1, by simp [hv], _, by rw [sput_ne (Ne.symm hPF)]; exact hF2, by omega, ?_⟩
        refine ⟨_, ?_, (y :: ys).eraseIdx v.toNat, fs ++ [(y :: ys)[v.toNat]], rfl, by rw [sput_ne hPF, sput_same], sput_same, (sb2.put hP).put hF0, ?_, rfl⟩
        · rw [List.length_eraseIdx, if_pos hv]
          omega
        · refine List.Perm.trans ?_ pm
          rw [List.append_assoc]
          exact List.Perm.append_left fs (eraseIdx_perm hv)
    · exact h.elim
theorem cnt_codes : ∀ t : T, PyProof.Rows.cnt 40 t.codes + PyProof.Rows.cnt 111 t.codes = (t.size : Nat) := by
  apply T.ind'
  · decide
  · intro l ih
    have hl : ∀ l : List T, (∀ t ∈ l, PyProof.Rows.cnt 40 t.codes + PyProof.Rows.cnt 111 t.codes = (t.size : Nat)) → PyProof.Rows.cnt 40 (codesL l) + PyProof.Rows.cnt 111 (codesL l) = (sizeL l : Nat) := by
      intro l
      induction l with
      | nil => exact fun _ => by decide
      | cons t l ih =>
        intro h
        have h1 := h t List.mem_cons_self
        have h2 := ih fun u hu => h u (List.mem_cons_of_mem _ hu)
        show PyProof.Rows.cnt 40 (t.codes ++ codesL l) + PyProof.Rows.cnt 111 (t.codes ++ codesL l) = ((t.size + sizeL l : Nat) : Int)
        rw [PyProof.Rows.cnt_append, PyProof.Rows.cnt_append]
        omega
    show PyProof.Rows.cnt 40 (40 :: (codesL l ++ [41])) + PyProof.Rows.cnt 111 (40 :: (codesL l ++ [41])) = ((1 + sizeL l : Nat) : Int)
    rw [PyProof.Rows.cnt_cons, PyProof.Rows.cnt_cons, PyProof.Rows.cnt_append, PyProof.Rows.cnt_append]
    have := hl l ih
    simp [PyProof.Rows.cnt_cons, PyProof.Rows.cnt_nil]
    omega
def asp__law_size : ASp
  | [.str z], L, Q, _ => ∃ t : T, z = tx t ∧ Q (.int (t.size : Nat)) L
  | _, _, _, _ => False
theorem okA__law_size  (T : Txt K mg base) {scr : Option (Addr × List Int)} : CallD P w K mg base CX0 3 "_law_size" ["_law_text"] [] (spA (cA K scr) (asp__law_size)) := by
  refine T.d__law_size.okA sc__law_size ?len (fun f cdv A outer s H E hr => (as_one (as_ret (ae_op aop_add (ae_ms1 PySem.F.slot_str_count PySem.F.type_str_count mt_count low_count (av 0) ae_str) (ae_ms1 PySem.F.slot_str_count PySem.F.type_str_count mt_count low_count (av 0) ae_str))))) ?vc
  case len =>
    intro ds L R RX h
    unfold asp__law_size at h
    split at h <;> first | rfl | exact h.elim
  case vc =>
    intro ds L R RX h
    unfold asp__law_size at h
    split at h
    · rename_i z
      obtain ⟨t, rfl, h⟩ := h
      refine ⟨⟨_, rfl⟩, ⟨_, rfl⟩, ret_of ?_⟩
      show R (.int (Txt.count (tx t) ("(" : Str) + Txt.count (tx t) ("o" : Str))) L
      rw [op_S, o_S, PyProof.Rows.count_cnt, PyProof.Rows.count_cnt]
      have e : (tx t).cps.toList = t.codes := by unfold tx; rfl
      rw [e, cnt_codes t]
      exact h
    · exact h.elim
def GW (L0 : Store) (d : Addr) (n : Int) (m : Nat) (env : En) (L : Store) : Prop := ∃ P, ∃ pool : List T, ∃ left x4 x5 x6, env = [some (.ref d), some (.int n), some (.ref P), some (.int left), x4, x5, x6] ∧ L P = some (.lst (pool.map dtx)) ∧ L0 P = none ∧ SubS L0 L ∧ CanL pool ∧ 0 ≤ left ∧ (sizeL pool : Int) + left ≤ n - 1 ∧ m = left.toNat
theorem grown_sign {f : Int} (h0 : 0 ≤ f) (h1 : f < 3) : ∃ t : T, atI [D.str ("o" : Str), D.str ("o" : Str), D.str ("()" : Str)] f = some (dtx t) ∧ Can t ∧ t.size = 1 := by
  have e : ("()" : Str) = tx (.bas []) := by decide +kernel
  obtain ⟨k, rfl⟩ := Int.eq_ofNat_of_zero_le h0
  rw [e, ← tx_jet]
  match k, h1 with
  | 0, _ => exact ⟨.jet, rfl, trivial, rfl⟩
  | 1, _ => exact ⟨.jet, rfl, trivial, rfl⟩
  | 2, _ => exact ⟨.bas [], rfl, ⟨List.Pairwise.nil, trivial⟩, rfl⟩
  | k + 3, h => exact absurd h (by omega)
theorem dep_dtx (l : List T) : depDL (l.map dtx) ≤ 70 := by rw [depDL_map fun _ => rfl]; omega
theorem can_one {t : T} (h : Can t) : CanL [t] := ⟨h, trivial⟩
theorem can_app {a b : List T} (h : CanL a) (k : CanL b) : CanL (a ++ b) := canL_iff.mpr fun t ht => (List.mem_append.mp ht).elim (canL_iff.mp h t) (canL_iff.mp k t)
def asp__law_grown : ASp
  | [.ref d, .int n], L, Q, _ => L d = some feedM ∧ 1 ≤ n ∧ n ≤ 60 ∧ ∀ t : T, Can t → t.size ≤ n → Q (.str (tx t)) L
  | _, _, _, _ => False
theorem okA__law_grown  (T : Txt K mg base) {scr : Option (Addr × List Int)} : CallD P w K mg base CX0 76 "_law_grown" ["_law_feed_here", "_law_room"] [] (spA (cA K scr) (asp__law_grown)) := by
  refine T.d__law_grown.okA sc__law_grown ?len (fun f cdv A outer s H E hr => (as_cons (as_par (i := 2) (j := 3) (by rfl) sc__law_grown.nd rfl rfl (by decide) rfl rfl (aa_cons (ae_lst aa_nil) (aa_cons (ae_op aop_sub (av 1) ae_int) aa_nil)) (by rfl))
      (as_cons (as_while PassesOwn.never (at_cmp aop_gt (av 3) ae_int (nomark _))
        (as_cons (as_par (i := 4) (j := 5) (by rfl) sc__law_grown.nd rfl rfl (by decide) rfl rfl (aa_cons (ae_call (okA__law_draw T) (hr.mono (by decide)) (by rfl) (aa_cons (av 0) (aa_cons ae_int aa_nil))) (aa_cons (ae_op aop_add ae_int (ae_call (okA__law_draw T) (hr.mono (by decide)) (by rfl) (aa_cons (av 0) (aa_cons ae_int aa_nil)))) aa_nil)) (by rfl))
        (as_cons (as_if (at_cmp aop_lt (av 4) ae_int (nomark _))
          (as_one (as_expr (ae_ml PySem.F.plainAttrs_list PySem.F.slot_list_append PySem.F.type_list_append mt_append low_append (av 2) (aa_cons (ae_ix (ae_lst (aa_cons ae_str (aa_cons ae_str (aa_cons ae_str aa_nil)))) (av 4) (fun _ _ => rfl)) aa_nil))))
          (as_one (as_if (at_via (AW.pt (aw_and (at_cmp (aop_eqG (okF_eq T) (hr.mono (by decide)) hr.units) (av 4) ae_int (nomark _)) (aw_and (at_cmp (aop_neG T.cls (okF_eq T) (hr.mono (by decide)) hr.units) (av 2) (ae_lst aa_nil) (nomark _)) (aw_and1 (at_cmp aop_le (ae_call (okA__law_size T) (hr.mono (by decide)) (by rfl) (aa_cons (ae_ix (av 2) (ae_op aop_sub (ae_b acb_len (by rfl) T.n_len (by decide +kernel) (aa_cons (av 2) aa_nil)) ae_int) (fun _ _ => rfl)) aa_nil)) (av 3) (nomark _)))))))
            (as_cons (as_set (i := 3) sc__law_grown.nd rfl (by first | exact Or.inl rfl | exact Or.inr rfl) (ae_op aop_add (ae_op aop_sub (av 3) (ae_call (okA__law_size T) (hr.mono (by decide)) (by rfl) (aa_cons (ae_ix (av 2) (ae_op aop_sub (ae_b acb_len (by rfl) T.n_len (by decide +kernel) (aa_cons (av 2) aa_nil)) ae_int) (fun _ _ => rfl)) aa_nil))) ae_int))
            (as_one (as_expr (ae_ml PySem.F.plainAttrs_list PySem.F.slot_list_append PySem.F.type_list_append mt_append low_append (av 2) (aa_cons (ae_ix (av 2) (ae_op aop_sub (ae_b acb_len (by rfl) T.n_len (by decide +kernel) (aa_cons (av 2) aa_nil)) ae_int) (fun _ _ => rfl)) aa_nil)))))
            (as_one (as_if (at_cmp (aop_neG T.cls (okF_eq T) (hr.mono (by decide)) hr.units) (av 2) (ae_lst aa_nil) (nomark _))
              (as_cons (as_via (as_set (i := 6) sc__law_grown.nd rfl (by first | exact Or.inl rfl | exact Or.inr rfl) (ae_b (acb_max rfl) (by rfl) T.n_max (by decide +kernel) (aa_cons ae_int (aa_cons (ae_op aop_sub (ae_b acb_len (by rfl) T.n_len (by decide +kernel) (aa_cons (av 2) aa_nil)) (av 5)) aa_nil)))))
              (as_one (as_set (i := 2) sc__law_grown.nd rfl (by first | exact Or.inl rfl | exact Or.inr rfl) (ae_op aop_add (ae_sl (av 2) ao_none (ao_some (av 6))) (ae_lst (aa_cons (ae_op aop_add (ae_op aop_add ae_str (ae_ms1 PySem.F.slot_str_join PySem.F.type_str_join mt_join low_join ae_str (ae_b acb_sorted (by rfl) T.n_sorted (by decide +kernel) (aa_cons (ae_sl (av 2) (ao_some (av 6)) ao_none) aa_nil)))) ae_str) aa_nil))))))
              as_nil)))))
        (as_one (as_set (i := 3) sc__law_grown.nd rfl (by first | exact Or.inl rfl | exact Or.inr rfl) (ae_op aop_sub (av 3) ae_int))))))
      (as_cons (as_if (at_via (AW.pt (aw_and (at_cmp (aop_eqG (okF_eq T) (hr.mono (by decide)) hr.units) (ae_b acb_len (by rfl) T.n_len (by decide +kernel) (aa_cons (av 2) aa_nil)) ae_int (nomark _)) (aw_and1 (at_cmp aop_gt (ae_call (okA__law_draw T) (hr.mono (by decide)) (by rfl) (aa_cons (av 0) (aa_cons ae_int aa_nil))) ae_int (nomark _))))))
        (as_one (as_ret (ae_ix (av 2) ae_int (fun _ _ => rfl))))
        as_nil)
      (as_one (as_ret (ae_op aop_add (ae_op aop_add ae_str (ae_ms1 PySem.F.slot_str_join PySem.F.type_str_join mt_join low_join ae_str (ae_b acb_sorted (by rfl) T.n_sorted (by decide +kernel) (aa_cons (av 2) aa_nil)))) ae_str))))))) ?vc
  case len =>
    intro ds L R RX h
    unfold asp__law_grown at h
    split at h <;> first | rfl | exact h.elim
  case vc =>
    intro ds L R RX h
    unfold asp__law_grown at h
    split at h
    · rename_i d n
      obtain ⟨hd, h1, h2, h⟩ := h
      have hsl := sizeLine_eq
      refine ⟨Nat.zero_le _, fun P hP0 => ?_⟩
      refine ⟨GW L d n, ⟨_, P, [], n - 1, none, none, none, rfl, sput_same, hP0, (SubS.refl L).new hP0, trivial, by omega, by show ((0 : Nat) : Int) + _ ≤ _; omega, rfl⟩, ?_⟩
      rintro m env L1 ⟨P, pool, left, x4, x5, x6, rfl, hP, hP0, sb, hc, l0, hz, rfl⟩
      have hpl : pool.length ≤ sizeL pool := length_le pool
      have hd1 := sb _ _ hd
      refine ite2 (fun e => ?_) (fun e => ?_)
      · have e := of_decide_eq_true e
        refine ⟨hd1, by decide, by decide, fun f f0 f1 => ⟨hd1, by decide, by decide, fun k k0 k1 => ?_⟩⟩
        have fin : ∀ P (pool2 : List JW.T) (left2 : Int) x6 L2, L2 P = some (.lst (pool2.map dtx)) → L P = none → SubS L L2 → CanL pool2 → 0 ≤ left2 - 1 → (sizeL pool2 : Int) + (left2 - 1) ≤ n - 1 → left2 ≤ left → ∃ m', m' < left.toNat ∧ GW L d n m' [some (.ref d), some (.int n), some (.ref P), some (.int (left2 - 1)), some (.int f), some (.int (1 + k)), x6] L2 := fun P2 pool2 left2 x6 L2 a1 a2 a3 a4 a5 a6 a7 => ⟨(left2 - 1).toNat, by omega, P2, pool2, _, _, _, _, rfl, a1, a2, a3, a4, a5, a6, rfl⟩
        refine ite2 (fun e1 => ?_) (fun e1 => ?_)
        · obtain ⟨t, ht, hct, hzt⟩ := grown_sign f0 (of_decide_eq_true e1)
          refine ⟨⟨P, _, rfl, hP⟩, by show (3 : Nat) ≤ sizeLine; omega, fun r hr => ⟨_, dtx t, sput_same, ht, _, sput_old hP hr, by rw [List.length_map]; omega, fin P (pool ++ [t]) left x6 _ (by rw [sput_same, List.map_append]; rfl) hP0 ((sb.new hr).put hP0) (can_app hc (can_one hct)) (by omega) ?_ (Int.le_refl _)⟩⟩
          rw [sizeL_app]
          have e2 : sizeL [t] = t.size + 0 := rfl
          omega
        · refine ⟨fun b L2 => L2 P = some (.lst (pool.map dtx)) ∧ SubS L L2 ∧ (b = true → ∃ us t, pool = us ++ [t] ∧ (t.size : Int) ≤ left), ite2 (fun e2 => ?_) (fun e2 => ⟨hP, sb, fun z => by cases z⟩), fun b L2 ⟨hP2, sb2, hb⟩ => ite2 (fun eb => ?_) (fun eb => ?_)⟩
          · refine ⟨Nat.zero_le _, fun r hr => ⟨_, _, sput_old hP hr, sput_same, eqSq_nil (dep_dtx _) (ite2 (fun e3 => ?_) (fun e3 => ⟨sput_old hP hr, sb.new hr, fun z => by cases z⟩))⟩⟩
            have hP3 := sput_old (n := .lst []) hP hr
            have hn : pool ≠ [] := fun z => by subst z; cases e3
            obtain ⟨us, t, rfl⟩ : ∃ us t, pool = us ++ [t] := ⟨_, _, (List.dropLast_concat_getLast hn).symm⟩
            refine ⟨_, hP3, _, dtx t, hP3, ?_, t, rfl, hP3, sb.new hr, fun z => ⟨us, t, rfl, of_decide_eq_true z⟩⟩
            rw [List.map_append]
            exact atI_last _ _
          · obtain ⟨us, t, rfl, htz⟩ := hb eb
            have hat : atI ((us ++ [t]).map dtx) (((us ++ [t]).map dtx).length - 1 : Int) = some (dtx t) := by
              rw [List.map_append]
              exact atI_last _ _
            have ht1 := size_pos t
            have hsa : sizeL (us ++ [t]) = sizeL us + sizeL [t] := sizeL_app _ _
            have e2 : sizeL [t] = t.size + 0 := rfl
            refine ⟨_, hP2, _, dtx t, hP2, hat, t, rfl, ⟨P, _, rfl, hP2⟩, _, hP2, _, dtx t, hP2, hat, _, hP2, by rw [List.length_map]; omega, fin P (us ++ [t] ++ [t]) (left - t.size + 1) x6 _ (by rw [sput_same]; simp) hP0 (sb2.put hP0) (can_app hc (can_one (canL_iff.mp hc t (by simp)))) (by omega) ?_ (by omega)⟩
            rw [sizeL_app]
            omega
          · refine ⟨Nat.zero_le _, fun r hr => ⟨_, _, sput_old hP2 hr, sput_same, eqSq_nil (dep_dtx _) (ite2 (fun e3 => ?_) (fun e3 => ?_))⟩⟩
            · have hP3 := sput_old (n := .lst []) hP2 hr
              have sb3 := sb2.new (m := .lst []) hr
              generalize sput L2 r (.lst []) = L3 at hP3 sb3
              have hn : pool ≠ [] := fun z => by subst z; cases e3
              have hpp : 0 < pool.length := List.length_pos_iff.mpr hn
              have hlm : (pool.map dtx).length = pool.length := List.length_map _
              obtain ⟨i, hi, hil⟩ : ∃ i : Nat, (if ((pool.map dtx).length : Int) - (1 + k) > 0 then ((pool.map dtx).length : Int) - (1 + k) else 0) = (i : Nat) ∧ i < pool.length := by
                rw [hlm]
                split
                · exact ⟨((pool.length : Int) - (1 + k)).toNat, by omega, by omega⟩
                · exact ⟨0, rfl, hpp⟩
              refine ⟨fun env L4 => L4 = L3 ∧ ∃ i : Nat, i < pool.length ∧ env = [some (.ref d), some (.int n), some (.ref P), some (.int left), some (.int f), some (.int (1 + k)), some (.int (i : Nat))], ⟨_, hP3, rfl, i, hil, by rw [← hi]; rfl⟩, ?_⟩
              rintro _ _ ⟨rfl, i, hil, rfl⟩
              have hsp : sizeL pool = sizeL (pool.take i) + sizeL (pool.drop i) := by rw [← sizeL_app, List.take_append_drop]
              have hsd : sizeL (pool.drop i) ≤ 5000 := by omega
              have hdl : (pool.drop i).length < 64 := by rw [List.length_drop]; omega
              refine ⟨_, hP3, fun a ha => ⟨⟨_, rfl⟩, _, sput_old hP3 ha, fun q hq => .inl ⟨(pool.drop i).map tx, by rw [sput_same, cutD_drop rfl, dtx_map], by rw [List.length_map]; exact hdl, fun ys s py hy hs => ?_⟩⟩⟩
              have ey := sorted_tx py hy
              subst ey
              have hj := joinedS hsd
              refine ⟨_, sput_same, joined hsd, ?_, ?_, by show (1 : Nat) ≤ sizeLine; omega, fun u hu => ?_⟩
              · show 1 + _ ≤ sizeLine
                omega
              · rw [len_cat]
                show (1 + _) + 1 ≤ sizeLine
                omega
              rw [tx_bas]
              refine ⟨_, _, sput_old (sput_old (sput_old sput_same hq) hs) hu, sput_same, ?_, fun v hv => fin v (pool.take i ++ [.bas (sortT (pool.drop i))]) left _ _ ?_ ?_ ?_ ?_ (by omega) ?_ (Int.le_refl _)⟩
              · rw [cutD_take rfl, List.length_map, List.length_take]
                show _ + 1 ≤ sizeLine
                omega
              · rw [sput_same, cutD_take rfl, List.map_append]
                rfl
              · exact ((((sb3.new ha).new hq).new hs).new hu).none hv
              · exact ((((sb3.new ha).new hq).new hs).new hu).new hv
              · exact can_app (canL_iff.mpr fun t ht => canL_iff.mp hc t (List.mem_of_mem_take ht)) (can_one (can_bas (canL_iff.mpr fun t ht => canL_iff.mp hc t (List.mem_of_mem_drop ht))))
              · rw [sizeL_app]
                have e4 : sizeL [JW.T.bas (sortT (pool.drop i))] = (1 + sizeL (sortT (pool.drop i))) + 0 := rfl
                rw [sizeL_perm (sortT_perm _)] at e4
                omega
            · exact fin P pool left x6 _ (sput_old hP2 hr) hP0 (sb2.new hr) hc (by omega) (by omega) (Int.le_refl _)
      · refine ⟨fun b L2 => L2 = L1 ∧ (b = true → ∃ t, pool = [t]), ⟨_, hP, ite2 (fun e2 => ⟨hd1, by decide, by decide, fun x x0 x1 => ⟨rfl, fun _ => ?_⟩⟩) (fun e2 => ⟨rfl, fun z => by cases z⟩)⟩, fun b L2 ⟨el, hb⟩ => ite2 (fun eb => ?_) (fun eb => ?_)⟩
        · have e3 := of_decide_eq_true ((Bool.false_xor _).symm.trans e2)
          rw [List.length_map] at e3
          match pool, e3 with
          | [t], _ => exact ⟨t, rfl⟩
          | [], e3 => exact absurd e3 (by decide)
          | _ :: _ :: _, e3 => exact absurd e3 (by simp only [List.length_cons]; omega)
        · obtain ⟨t, rfl⟩ := hb eb
          have e4 : sizeL [t] = t.size + 0 := rfl
          subst el
          exact ⟨_, dtx t, hP, rfl, ret_sub (h t hc.1 (by omega)) sb⟩
        · subst el
          have hs5 : sizeL pool ≤ 5000 := by omega
          have hj := joinedS hs5
          refine ⟨⟨_, rfl⟩, .inl ⟨pool.map tx, by rw [← dtx_map]; exact hP, by rw [List.length_map]; omega, fun ys s py hy hs => ?_⟩⟩
          have ey := sorted_tx py hy
          subst ey
          refine ⟨_, sput_same, joined hs5, ?_, ?_, ?_⟩
          · show 1 + _ ≤ sizeLine
            omega
          · rw [len_cat]
            show (1 + _) + 1 ≤ sizeLine
            omega
          · rw [tx_bas]
            refine ret_sub (h (.bas (sortT pool)) (can_bas hc) ?_) (sb.new hs)
            have e4 : (JW.T.bas (sortT pool)).size = 1 + sizeL (sortT pool) := rfl
            rw [sizeL_perm (sortT_perm _)] at e4
            omega
    · exact h.elim
def NormI (L0 : Store) (z : D) (st : List (List T)) (env : En) (L : Store) : Prop := ∃ P ps x2 x3, env = [some z, some (.ref P), x2, x3] ∧ L P = some (.lst (ps.map D.ref)) ∧ RowsAt L ps st ∧ P ∉ ps ∧ SubS L0 L ∧ ∀ p ∈ P :: ps, L0 p = none
def bNorm : ATS :=
        (aIfS (aBl (aOp (eqG false) (aVar 2) (aC (D.str (Str.ofString "(")))))
          (aDrop (aMl appendD (aVar 1) (aCons (aLst aNil) aNil)))
          (aIfS (aBl (aOp (eqG false) (aVar 2) (aC (D.str (Str.ofString ")")))))
            (aSeq (aAsg (aMl popD (aVar 1) aNil) (agName 3))
              (aDrop
                (aMl appendD (aOp ixD (aVar 1) (aOp subD (aB lenD (aCons (aVar 1) aNil)) (aC (D.int 1))))
                  (aCons
                    (aOp addD
                      (aOp addD (aC (D.str (Str.ofString "(")))
                        (aMs joinD (aC (D.str (Str.ofString ""))) (aCons (aB sortedD (aCons (aVar 3) aNil)) aNil)))
                      (aC (D.str (Str.ofString ")"))))
                    aNil))))
            (aDrop
              (aMl appendD (aOp ixD (aVar 1) (aOp subD (aB lenD (aCons (aVar 1) aNil)) (aC (D.int 1))))
                (aCons (aVar 2) aNil)))))
section
variable {L0 : Store} {z : D} {N : AEnds}
abbrev lpN (N : AEnds) : List D → En → Store → Prop := loopA (agName 2) bNorm N yes
theorem norm_open {s : Str} (es : s = ⟨#[40]⟩) {rest : List D} {st : List (List T)} {env : En} {L : Store} (hs : st.length < 1000) (h : NormI L0 z st env L) (k : ∀ env L, NormI L0 z (st ++ [[]]) env L → lpN N rest env L) : lpN N (.str s :: rest) env L := by
  obtain ⟨P, ps, x2, x3, rfl, hP, hR, hn, sb, h0⟩ := h
  have hsl := sizeLine_eq
  have hpl : ps.length < 1000 := by rw [hR.2.1]; exact hs
  refine ⟨trivial, ite_t (by rw [es]; rfl) ⟨⟨P, _, rfl, hP⟩, Nat.zero_le _, fun r hr => ⟨_, sput_old hP hr, by rw [List.length_map]; omega, ?_⟩⟩⟩
  have hrP : r ≠ P := fun e => by rw [e, hP] at hr; cases hr
  have hrp : r ∉ ps := fun hm => by
    obtain ⟨l, e⟩ := rows_some hR hm
    rw [e] at hr
    cases hr
  refine k _ _ ⟨P, ps ++ [r], _, x3, rfl, by rw [sput_same, List.map_append]; rfl, rows_push (rows_keep hR fun p hp => ?_) hrp ?_, ?_, (sb.new hr).put (h0 P List.mem_cons_self), fun p hp => ?_⟩
  · rw [sput_ne (nem hp hn), sput_ne (nem hp hrp)]
  · rw [sput_ne hrP, sput_same]
    rfl
  · intro hm
    rcases List.mem_append.mp hm with e | e
    · exact hn e
    · exact hrP (List.mem_singleton.mp e).symm
  · rcases List.mem_cons.mp hp with e | e
    · exact h0 p (by rw [e]; exact List.mem_cons_self)
    · rcases List.mem_append.mp e with e | e
      · exact h0 p (List.mem_cons_of_mem _ e)
      · rw [List.mem_singleton.mp e]
        exact sb.none hr
theorem norm_jet {s : Str} (es : s = ⟨#[111]⟩) {rest : List D} {st : List (List T)} {l : List T} {env : En} {L : Store} (hl : l.length < 1000) (h : NormI L0 z (st ++ [l]) env L) (k : ∀ env L, NormI L0 z (st ++ [l ++ [.jet]]) env L → lpN N rest env L) : lpN N (.str s :: rest) env L := by
  obtain ⟨P, ps, x2, x3, rfl, hP, hR, hn, sb, h0⟩ := h
  have hsl := sizeLine_eq
  obtain ⟨qs, p, rfl, hR1, hp, hq⟩ := rows_top hR
  have hPp : p ≠ P := fun e => hn (by rw [← e]; simp)
  refine ⟨trivial, ite_f (by rw [es]; rfl) (ite_f (by rw [es]; rfl) ⟨_, hP, _, D.ref p, hP, ?_, ⟨p, _, rfl, hp⟩, _, hp, by rw [List.length_map]; omega, ?_⟩)⟩
  · rw [List.map_append]
    exact atI_last _ _
  refine k _ _ ⟨P, qs ++ [p], _, x3, rfl, by rw [sput_ne (Ne.symm hPp)]; exact hP, rows_push (rows_keep hR1 fun q hm => sput_ne (nem hm hq)) hq ?_, hn, sb.put (h0 p (by simp)), h0⟩
  rw [sput_same, List.map_append, es]
  rfl
theorem norm_close {s : Str} (es : s = ⟨#[41]⟩) {rest : List D} {st : List (List T)} {l m : List T} {env : En} {L : Store} (hl : l.length < 1000) (hm : m.length < 64) (hz : sizeL m ≤ 5000) (h : NormI L0 z (st ++ [l] ++ [m]) env L) (k : ∀ env L, NormI L0 z (st ++ [l ++ [.bas (sortT m)]]) env L → lpN N rest env L) : lpN N (.str s :: rest) env L := by
  obtain ⟨P, ps, x2, x3, rfl, hP, hR, hn, sb, h0⟩ := h
  have hsl := sizeLine_eq
  obtain ⟨qs, q, rfl, hR1, hq, hqn⟩ := rows_top hR
  obtain ⟨ps, p, rfl, hR2, hp, hpn⟩ := rows_top hR1
  have hPq : q ≠ P := fun e => hn (by rw [← e]; simp)
  have hPp : p ≠ P := fun e => hn (by rw [← e]; simp)
  have hpq : p ≠ q := fun e => hqn (by rw [← e]; simp)
  refine ⟨trivial, ite_f (by rw [es]; rfl) (ite_t (by rw [es]; rfl) ⟨⟨P, _, rfl, hP⟩, _, D.ref q, hP, ?_, ?_⟩)⟩
  · rw [List.map_append]
    exact last_get _ _
  have e2 : ((ps ++ [p] ++ [q]).map D.ref).dropLast = (ps ++ [p]).map D.ref := by rw [List.map_append]; exact List.dropLast_concat
  rw [e2]
  generalize hL2 : sput L P (.lst ((ps ++ [p]).map D.ref)) = L2
  have hP2 : L2 P = some (.lst ((ps ++ [p]).map D.ref)) := by rw [← hL2, sput_same]
  have hp2 : L2 p = some (.lst (l.map dtx)) := by rw [← hL2, sput_ne hPp]; exact hp
  have hq2 : L2 q = some (.lst (m.map dtx)) := by rw [← hL2, sput_ne hPq]; exact hq
  have hR3 : RowsAt L2 ps st := rows_keep hR2 fun a ha => by rw [← hL2, sput_ne (nem (List.mem_append_left _ (List.mem_append_left _ ha)) hn)]
  have sb2 : SubS L0 L2 := by rw [← hL2]; exact sb.put (h0 P List.mem_cons_self)
  refine ⟨_, hP2, _, D.ref p, hP2, ?_, ⟨p, _, rfl, hp2⟩, ⟨_, rfl⟩, .inl ⟨m.map tx, by rw [← dtx_map]; exact hq2, by rw [List.length_map]; exact hm, fun ys r py hy hr => ?_⟩⟩
  · rw [List.map_append]
    exact atI_last _ _
  have ey := sorted_tx py hy
  subst ey
  have hrp : p ≠ r := fun e => by rw [← e, hp2] at hr; cases hr
  have hrP : P ≠ r := fun e => by rw [← e, hP2] at hr; cases hr
  have hj := joinedS hz
  refine ⟨_, sput_same, joined hz, ?_, ?_, _, by rw [sput_ne hrp]; exact hp2, by rw [List.length_map]; omega, ?_⟩
  · show 1 + _ ≤ sizeLine
    omega
  · rw [len_cat]
    show (1 + _) + 1 ≤ sizeLine
    omega
  rw [tx_bas]
  refine k _ _ ⟨P, ps ++ [p], _, _, rfl, by rw [sput_ne (Ne.symm hPp), sput_ne hrP]; exact hP2, rows_push (rows_keep hR3 fun a ha => ?_) hpn ?_, ?_, (sb2.new hr).put (h0 p (by simp)), fun a ha => h0 a (List.mem_cons.mpr ((List.mem_cons.mp ha).imp id fun e => List.mem_append_left _ e))⟩
  · have ha2 : a ≠ r := fun e => by
      obtain ⟨w, e3⟩ := rows_some hR3 ha
      rw [← e, e3] at hr
      cases hr
    rw [sput_ne (nem ha hpn), sput_ne ha2]
  · rw [sput_same, List.map_append]
    rfl
  · intro e
    exact hn (List.mem_append_left _ e)
theorem norm_tree : ∀ (t : T) (rest : List D) (st : List (List T)) (l : List T) env L, st.length + t.dep < 900 → l.length < 900 → t.size ≤ 4900 ∧ widT t < 64 → NormI L0 z (st ++ [l]) env L → (∀ env L, NormI L0 z (st ++ [l ++ [t.canon]]) env L → lpN N rest env L) → lpN N (t.codes.map (fun c => D.str ⟨#[c]⟩) ++ rest) env L := by
  apply T.ind'
  · intro rest st l env L h1 h2 h3 h k
    exact norm_jet rfl (by omega) h k
  · intro ts ih rest st l env L h1 h2 ⟨h3, h4⟩ h k
    have hts : (T.bas ts).size = 1 + sizeL ts := rfl
    have hdp : (T.bas ts).dep = 1 + depL ts := rfl
    have hwd : max ts.length (widL ts) < 64 := h4
    have hwl : ts.length < 64 := by omega
    have hk : ∀ (us vs : List T) (rest : List D) env L, (∀ t ∈ us, t ∈ ts) → vs.length + us.length ≤ ts.length → NormI L0 z (st ++ [l] ++ [vs]) env L → (∀ env L, NormI L0 z (st ++ [l] ++ [vs ++ us.map T.canon]) env L → lpN N rest env L) → lpN N ((codesL us).map (fun c => D.str ⟨#[c]⟩) ++ rest) env L := by
      intro us
      induction us with
      | nil =>
        intro vs rest env L _ _ h k
        exact k _ _ (by rw [List.map_nil, List.append_nil]; exact h)
      | cons t us ih2 =>
        intro vs rest env L hm hz h k
        have ht := hm t List.mem_cons_self
        have hsz := size_mem ht
        have hdm := dep_mem ht
        have hwm := wid_mem ht
        rw [List.length_cons] at hz
        show lpN N (List.map (fun c => D.str ⟨#[c]⟩) (t.codes ++ codesL us) ++ rest) env L
        rw [List.map_append, List.append_assoc]
        refine ih t ht _ (st ++ [l]) vs env L (by rw [List.length_append, List.length_singleton]; omega) (by omega) ⟨by omega, by omega⟩ h fun env L h => ?_
        refine ih2 (vs ++ [t.canon]) rest env L (fun u hu => hm u (List.mem_cons_of_mem _ hu)) (by rw [List.length_append, List.length_singleton]; omega) h fun env L h => k env L ?_
        rw [List.append_assoc vs] at h
        exact h
    have hcs : sizeL (ts.map T.canon) = sizeL ts := sizeL_canon ts
    show lpN N (List.map (fun c => D.str ⟨#[c]⟩) (40 :: (codesL ts ++ [41])) ++ rest) env L
    rw [List.map_cons, List.map_append, List.cons_append, List.append_assoc]
    refine norm_open rfl (by rw [List.length_append, List.length_singleton]; omega) h fun env L h => ?_
    refine hk ts [] _ env L (fun t h => h) (by simp) h fun env L h => ?_
    refine norm_close rfl (by omega) (by rw [List.nil_append, List.length_map]; omega) (by rw [List.nil_append, hcs]; omega) h fun env L h => k env L ?_
    rw [canon_bas]
    exact h
end
def asp__law_norm : ASp
  | [.str z], L, Q, _ => ∃ t : T, z = tx t ∧ NormOk t ∧ Q (.str (tx t.canon)) L
  | _, _, _, _ => False
theorem okA__law_norm  (T : Txt K mg base) {scr : Option (Addr × List Int)} : CallD P w K mg base CX0 76 "_law_norm" ["_law_text"] [] (spA (cA K scr) (asp__law_norm)) := by
  refine T.d__law_norm.okA sc__law_norm ?len (fun f cdv A outer s H E hr => (as_cons (as_set (i := 1) sc__law_norm.nd rfl (by first | exact Or.inl rfl | exact Or.inr rfl) (ae_lst (aa_cons (ae_lst aa_nil) aa_nil)))
      (as_cons (as_for PassesOwn.never rfl (ai_str (av 0)) (ag_name (i := 2) sc__law_norm.nd rfl (by first | exact Or.inl rfl | exact Or.inr rfl))
        (as_one (as_if (at_cmp (aop_eqG (okF_eq T) (hr.mono (by decide)) hr.units) (av 2) ae_str (nomark _))
          (as_one (as_expr (ae_ml PySem.F.plainAttrs_list PySem.F.slot_list_append PySem.F.type_list_append mt_append low_append (av 1) (aa_cons (ae_lst aa_nil) aa_nil))))
          (as_one (as_if (at_cmp (aop_eqG (okF_eq T) (hr.mono (by decide)) hr.units) (av 2) ae_str (nomark _))
            (as_cons (as_set (i := 3) sc__law_norm.nd rfl (by first | exact Or.inl rfl | exact Or.inr rfl) (ae_ml0 PySem.F.plainAttrs_list PySem.F.slot_list_pop PySem.F.type_list_pop mt_pop low_pop (av 1)))
            (as_one (as_expr (ae_ml PySem.F.plainAttrs_list PySem.F.slot_list_append PySem.F.type_list_append mt_append low_append (ae_ix (av 1) (ae_op aop_sub (ae_b acb_len (by rfl) T.n_len (by decide +kernel) (aa_cons (av 1) aa_nil)) ae_int) (fun _ _ => rfl)) (aa_cons (ae_op aop_add (ae_op aop_add ae_str (ae_ms1 PySem.F.slot_str_join PySem.F.type_str_join mt_join low_join ae_str (ae_b acb_sorted (by rfl) T.n_sorted (by decide +kernel) (aa_cons (av 3) aa_nil)))) ae_str) aa_nil)))))
            (as_one (as_expr (ae_ml PySem.F.plainAttrs_list PySem.F.slot_list_append PySem.F.type_list_append mt_append low_append (ae_ix (av 1) (ae_op aop_sub (ae_b acb_len (by rfl) T.n_len (by decide +kernel) (aa_cons (av 1) aa_nil)) ae_int) (fun _ _ => rfl)) (aa_cons (av 2) aa_nil)))))))))
      (as_one (as_ret (ae_ix (ae_ix (av 1) ae_int (fun _ _ => rfl)) ae_int (fun _ _ => rfl))))))) ?vc
  case len =>
    intro ds L R RX h
    unfold asp__law_norm at h
    split at h <;> first | rfl | exact h.elim
  case vc =>
    intro ds L R RX h
    unfold asp__law_norm at h
    split at h
    · rename_i z
      obtain ⟨t, rfl, ⟨hz1, hz2, hz3⟩, h⟩ := h
      refine ⟨Nat.zero_le _, fun r hr => ⟨by show (1 : Nat) ≤ sizeLine; decide, fun P hP0 => ?_⟩⟩
      have e : (tx t).cps.toList = t.codes := by unfold tx; rfl
      show loopA (agName 2) bNorm _ yes ((tx t).cps.toList.map fun k => D.str ⟨#[k]⟩) _ _
      rw [e, ← List.append_nil (List.map _ _)]
      have hrP : r ≠ P := fun e => by rw [← e, sput_same] at hP0; cases hP0
      refine norm_tree (L0 := L) (z := dtx t) t [] [] [] _ _ (by simp; omega) (by simp) ⟨hz1, hz2⟩ ⟨P, [r], none, none, rfl, sput_same, ⟨by simp, rfl, fun i p l e1 e2 => ?_⟩, fun hm => hrP (List.mem_singleton.mp hm).symm, ((SubS.refl L).new hr).new hP0, fun p hp => ?_⟩ fun env L2 h => ?_
      · rcases i with _ | i
        · cases e1
          cases e2
          rw [sput_ne hrP, sput_same]
          rfl
        · cases e1
      · rcases List.mem_cons.mp hp with e | e
        · rw [e]
          rw [sput_ne fun e => hrP e.symm] at hP0
          exact hP0
        · rw [List.mem_singleton.mp e]
          exact hr
      · obtain ⟨P2, ps, x2, x3, rfl, hP2, hR, hn, sb, h0⟩ := h
        obtain ⟨qs, q, rfl, hR1, hq, hqn⟩ := rows_top hR
        have eq : qs = [] := List.eq_nil_of_length_eq_zero hR1.2.1
        subst eq
        exact ⟨trivial, _, D.ref q, hP2, rfl, _, dtx t.canon, hq, rfl, ret_sub h sb⟩
    · exact h.elim
def asp__law_open : ASp
  | [.ref d, .int n], L, Q, _ => L d = some feedM ∧ 1 ≤ n ∧ n ≤ 60 ∧ ∀ t : T, Can t → opn t = true → t.size ≤ n → Q (.str (tx t)) L
  | _, _, _, _ => False
theorem okA__law_open  (T : Txt K mg base) {scr : Option (Addr × List Int)} : CallD P w K mg base CX0 77 "_law_open" ["_law_feed_here", "_law_room"] [] (spA (cA K scr) (asp__law_open)) := by
  refine T.d__law_open.okAT sc__law_open ?len (fun f cdv A outer s H E hr => (asst_cons (ast_of (as_set (i := 2) sc__law_open.nd rfl (by first | exact Or.inl rfl | exact Or.inr rfl) (ae_call (okA__law_grown T) (hr.mono (by decide)) (by rfl) (aa_cons (av 0) (aa_cons (av 1) aa_nil)))))
      (asst_one (ast_ret (aet_if (at_cmp aop_in ae_str (av 2) (by rfl)) (aet_of (av 2)) (aet_call (okA__law_norm T) (hr.mono (by decide)) (by rfl) (aat_cons (aet_replC (av 2)) aat_nil))))))) ?vc
  case len =>
    intro ds L R RX h
    unfold asp__law_open at h
    split at h <;> first | rfl | exact h.elim
  case vc =>
    intro ds L R RX h
    unfold asp__law_open at h
    split at h
    · rename_i d n
      obtain ⟨hd, h1, h2, h⟩ := h
      refine ⟨hd, h1, h2, fun t hc hz => ?_⟩
      refine ite2 (fun e => ?_) (fun e => ?_)
      · have e2 : (false ^^ !(Builtin.Str.occurrences (tx t) ("o" : Str) 0 (tx t).length 1).isEmpty) = true := e
        rw [Bool.false_xor, in_o] at e2
        exact ret_of (h t hc e2 hz)
      · have e2 : ¬ (false ^^ !(Builtin.Str.occurrences (tx t) ("o" : Str) 0 (tx t).length 1).isEmpty) = true := e
        rw [Bool.false_xor, in_o] at e2
        have hj : t.jts = 0 := by
          unfold opn at e2
          have := of_decide_eq_false (Bool.eq_false_iff.mpr e2)
          omega
        have hl := (codes_len t).1
        refine ⟨?_, t.fill, fill_tx hj, normOk_of (by rw [fill_size]; omega), ret_of (h t.fill.canon (canon_can _) ?_ ?_)⟩
        · have : (tx t).length = t.codes.length := rfl
          have e1 : ("o" : Str).length = 1 := by decide +kernel
          rw [this, e1]
          omega
        · unfold opn
          rw [canon_jts]
          exact decide_eq_true (fill_opn t)
        · rw [canon_size, fill_size]
          exact hz
    · exact h.elim
def asp__law_closed : ASp
  | [.ref d, .int n], L, Q, _ => L d = some feedM ∧ 1 ≤ n ∧ n ≤ 60 ∧ ∀ t : T, Can t → t.jts = 0 → t.size ≤ n → Q (.str (tx t)) L
  | _, _, _, _ => False
theorem okA__law_closed  (T : Txt K mg base) {scr : Option (Addr × List Int)} : CallD P w K mg base CX0 77 "_law_closed" ["_law_feed_here", "_law_room"] [] (spA (cA K scr) (asp__law_closed)) := by
  refine T.d__law_closed.okAT sc__law_closed ?len (fun f cdv A outer s H E hr => (asst_one (ast_ret (aet_call (okA__law_norm T) (hr.mono (by decide)) (by rfl) (aat_cons (aet_replC (ae_call (okA__law_grown T) (hr.mono (by decide)) (by rfl) (aa_cons (av 0) (aa_cons (av 1) aa_nil)))) aat_nil))))) ?vc
  case len =>
    intro ds L R RX h
    unfold asp__law_closed at h
    split at h <;> first | rfl | exact h.elim
  case vc =>
    intro ds L R RX h
    unfold asp__law_closed at h
    split at h
    · rename_i d n
      obtain ⟨hd, h1, h2, h⟩ := h
      refine ⟨hd, h1, h2, fun t hc hz => ?_⟩
      have hp9 : ("()" : Str) = tx (.bas []) := by decide +kernel
      have hl := (codes_len t).1
      refine ⟨?_, ?_⟩
      · have : (tx t).length = t.codes.length := rfl
        have e1 : ("()" : Str).length = 2 := by decide +kernel
        rw [this, e1]
        omega
      rw [hp9, rgr_tx]
      have hcan : Can (JW.T.bas []) := by
        have := canon_can (JW.T.bas [])
        rwa [show (JW.T.bas []).canon = JW.T.bas [] by decide +kernel] at this
      have hp1 : (JW.T.bas []).size = 1 := by decide +kernel
      have hpj : (JW.T.bas []).jts = 0 := by decide +kernel
      have er := rgr_canon hcan t
      refine ⟨rgr (.bas []) t, rfl, normOk_rgr hcan (by omega) (by omega), ret_of ?_⟩
      rw [er]
      refine h _ (grf_can hcan t) ?_ ?_
      · rw [grf_jts, hpj]
        simp
      · have := grf_size (JW.T.bas []) t
        rw [hp1] at this
        omega
    · exact h.elim
def KdM (K : PySem.W.Frag) (n : Nd) : MO := .ins (He.ga K "Kind") ["node"] [n.d]
def asp_uniform : ASp
  | [.bl v], L, Q, _ => Q (Nd.uni v).d L
  | _, _, _, _ => False
theorem okA_uniform  (T : Txt K mg base) {scr : Option (Addr × List Int)} : CallD P w K mg base CX0 2 "uniform" ["value"] [] (spA (cA K scr) (asp_uniform)) := by
  refine T.d_uniform.okA sc_uniform ?len (fun f cdv A outer s H E hr => (as_one (as_ret (ae_tup (aa_cons (av 0) (aa_cons (av 0) (aa_cons (ae_tup aa_nil) aa_nil))))))) ?vc
  case len =>
    intro ds L R RX h
    unfold asp_uniform at h
    split at h <;> first | rfl | exact h.elim
  case vc =>
    intro ds L R RX h
    unfold asp_uniform at h
    split at h
    · rename_i v
      rw [Nd.d_uni] at h
      have hsl := sizeLine_eq
      exact ⟨Nat.zero_le _, by show (3 : Nat) ≤ sizeLine; omega, ret_of h⟩
    · exact h.elim
def asp_trimmed : ASp
  | [.bl o, .bl r, .ref p], L, Q, _ => ∃ b : List (JW.T × Nd), L p = some (.lst (b.map fun q => .tup [.tree q.1, q.2.d])) ∧ b.length < 1000000 ∧ (∀ q ∈ b, depD q.2.d ≤ 71) ∧ Q (Nd.trim o r b).d L
  | _, _, _, _ => False
theorem okA_trimmed  (T : Txt K mg base) {scr : Option (Addr × List Int)} : CallD P w K mg base CX0 91 "trimmed" ["own", "rest", "branches"] [] (spA (cA K scr) (asp_trimmed)) := by
  refine T.d_trimmed.okA sc_trimmed ?len (fun f cdv A outer s H E hr => (as_one (as_ret (ae_tup (aa_cons (av 0) (aa_cons (av 1) (aa_cons (ae_ty acb_tup (by rfl) T.n_tuple (by decide +kernel) (aa_cons (ae_lcIf (own := [("branch", 3)]) (by rfl) sc_trimmed.nd (ai_list (av 2)) (blkOk_by (by kernel_rfl)) (tgOk_name (by decide)) (fun _ _ _ _ _ => pg_name (i := 3) sc_trimmed.nd rfl (by first | exact Or.inl rfl | exact Or.inr rfl)) (fun _ _ _ _ _ => (at_cmp (aop_neG T.cls (okF_eq T) (hr.mono (by decide)) hr.units) (ae_ix (av 3) ae_int (fun _ _ => rfl)) (ae_call (okA_uniform T) (hr.mono (by decide)) (by rfl) (aa_cons (av 1) aa_nil)) (nomark _))) (fun _ _ _ _ _ => (av 3))) aa_nil)) aa_nil))))))) ?vc
  case len =>
    intro ds L R RX h
    unfold asp_trimmed at h
    split at h <;> first | rfl | exact h.elim
  case vc =>
    intro ds L R RX h
    unfold asp_trimmed at h
    split at h
    · rename_i o r p
      obtain ⟨b, hp, hz, hd, h⟩ := h
      have hsl := sizeLine_eq
      refine ⟨_, hp, fun D' hD => ?_⟩
      refine comp_filt (fun q : JW.T × Nd => D.tup [.tree q.1, q.2.d]) (fun q => D.tup [.tree q.1, q.2.d]) (fun q => !Nd.isUni r q.2) (fun l => sput_old hp hD) b [] (by show 0 + b.length ≤ _; omega) (fun q hq l k hk => ?_) ?_
      · refine ⟨rfl, _, Nd.at2_1n, Nd.ne_uni (hd q hq) ?_⟩
        show (if (!Nd.isUni r q.2) = true then _ else _)
        cases hu : !Nd.isUni r q.2 with
        | true =>
          rw [hu] at hk
          exact hk
        | false =>
          rw [hu] at hk
          exact hk
      · refine ⟨_, sput_same, ?_⟩
        rw [Nd.d_eq] at h
        refine ⟨by show (3 : Nat) ≤ sizeLine; omega, ret_sub h ((SubS.refl L).new hD)⟩
    · exact h.elim
theorem ok_Fountain_is_jet  (T : Txt K mg base) : PropD P w K mg base CX0 1 (cF K) "is_jet" (spV K fun t => .bl (decide (t = .jet))) := by
  refine T.p_is_jet.ok sc_Fountain_is_jet (fun vs H Q E h => ?_) (fun f cdv A outer s H vs Q E hr h => ?_)
  · obtain ⟨v, t, rfl, _⟩ := h
    rfl
  · obtain ⟨v, t, rfl, hf, k⟩ := h
    obtain ⟨a, dx, b, n, vs, rfl, ha, hb, hn, hk⟩ := ftn_iff.mp hf
    refine ⟨_, (pss_one (ps_ret (pe_cmpR op_eq (pe_fld (pv 0) rfl) (pe_gstr rfl T.gJET_TEXT) (nomark _)))), ?_⟩
    refine ⟨.ref a, rfl, a, _, dx, _, _, rfl, ha, T.cls.c, T.cls.nw, fl_w, rfl, ?_⟩
    show Q (V.bl (decide (V.str (tx t) = V.str "o"))) H
    rw [show decide (V.str (tx t) = V.str "o") = decide (t = .jet) from decide_eq_decide.mpr ⟨fun z => tx_inj ((V.str.inj z).trans tx_jet.symm), fun z => by rw [z, tx_jet]⟩]
    exact k
theorem ok_Fountain_is_open  (T : Txt K mg base) : PropD P w K mg base CX0 1 (cF K) "is_open" (spV K fun t => .bl (decide (0 < t.jts))) := by
  refine T.p_is_open.ok sc_Fountain_is_open (fun vs H Q E h => ?_) (fun f cdv A outer s H vs Q E hr h => ?_)
  · obtain ⟨v, t, rfl, _⟩ := h
    rfl
  · obtain ⟨v, t, rfl, hf, k⟩ := h
    obtain ⟨a, dx, b, n, vs, rfl, ha, hb, hn, hk⟩ := ftn_iff.mp hf
    refine ⟨_, (pss_one (ps_ret (pe_cmpR op_gt (pe_ix ix_tup (pe_fld (pv 0) rfl) pe_int (fun _ _ => rfl)) pe_int (nomark _)))), ?_⟩
    refine ⟨.ref a, rfl, a, _, dx, _, _, rfl, ha, T.cls.c, T.cls.nn, fl_n, n, _, _, _, rfl, rfl, SqT.of hn, rfl, _, _, rfl, rfl, ?_⟩
    show Q (V.bl (decide ((0 : Int) < (t.jts : Nat)))) H
    rw [show decide ((0 : Int) < (t.jts : Nat)) = decide (0 < t.jts) from decide_eq_decide.mpr (by omega)]
    exact k
theorem ok_Fountain_parts  (T : Txt K mg base) : PropD P w K mg base CX0 1 (cF K) "parts" (spKids K) := by
  refine T.p_parts.ok sc_Fountain_parts (fun vs H Q E h => ?_) (fun f cdv A outer s H vs Q E hr h => ?_)
  · obtain ⟨v, t, rfl, _⟩ := h
    rfl
  · obtain ⟨v, t, rfl, hf, k⟩ := h
    obtain ⟨a, dx, b, n, vs, rfl, ha, hb, hn, hk⟩ := ftn_iff.mp hf
    refine ⟨_, (pss_one (ps_ret (pe_fld (pv 0) rfl))), ?_⟩
    exact ⟨.ref a, rfl, a, _, dx, _, _, rfl, ha, T.cls.c, T.cls.nb, fl_b, k b vs hb hk⟩
def sp_open_branches (K : PySem.W.Frag) : Sp := fun vs H Q _ => ∃ v l, vs = [v] ∧ Ftn (cF K) H (.bas l) v ∧ sizeL l ≤ 1048576 ∧ ∀ D ys H', H D = none → Same H H' → H' D = some (.lst ys) → FtnL (cF K) H' (opB l) ys → Q (.ref D) H'
theorem ok_open_branches  (T : Txt K mg base) : CallD P w K mg base CX0 5 "open_branches" ["fountain"] [] (sp_open_branches K) := by
  refine T.d_open_branches.ok sc_open_branches (fun vs H Q E h => ?_) (fun f cdv A outer s H vs Q E hr h => ?_)
  · obtain ⟨v, l, rfl, _⟩ := h
    rfl
  · obtain ⟨v, l, rfl, hv, hz, k⟩ := h
    have hsl := sizeLine_eq
    have hll := length_le l
    refine ⟨_, (pss_cons (ps_set (i := 1) sc_open_branches.nd rfl (by first | exact Or.inl rfl | exact Or.inr rfl) (pe_propD T.cls.c (ok_Fountain_parts T) (hr.mono (by decide)) pass0 (pv 0) rfl))
      (pss_one (ps_ret (pe_lc (own := [("index", 2), ("part", 3)]) (g := gTup K 2 (gCons (gName 2) (gCons (gName 3) gNil))) (by rfl) sc_open_branches.nd (pi_enumT (by rfl) T.n_enumerate (pa_cons (pv 1) pa_nil)) (blkOk_by (by kernel_rfl)) (fun _ _ _ _ _ => pg_tupK (K := K) rfl rfl (pgs_cons (pg_name (i := 2) sc_open_branches.nd rfl (by first | exact Or.inl rfl | exact Or.inr rfl)) (pgs_cons (pg_name (i := 3) sc_open_branches.nd rfl (by first | exact Or.inl rfl | exact Or.inr rfl)) pgs_nil))) (fun _ _ _ _ _ => pts_one (PW.pt (pw_and (pt_val (pe_propD T.cls.c (ok_Fountain_is_open T) (hr.mono (by decide)) pass0 (pv 3) rfl)) (pw_and1 (PW.pt (pw_or (pt_cmpR op_eq (pv 2) pe_int (nomark _)) (pw_or1 (pt_cmpR (op_own_ne T.cls.hne T.cls.hob (ok_Fountain___eq__ T) (hr.mono (by decide)) pass0) (pe_ix (ix_tupK (K := K) rfl ) (pv 1) (pe_op op_sub (pv 2) pe_int) (fun _ _ => rfl)) (pv 3) (nomark _))))))))) (fun _ _ _ _ _ => (pv 3)))))), ?_⟩
    refine ⟨v, rfl, ev_kids hv fun b xs hb hk => ⟨_, rfl, b, xs, rfl, SqT.of hb, fun D hD => ?_⟩⟩
    have hk : FtnL (cF K) H l xs := hk
    have hlen := hk.len
    refine lc_enumT (xs := xs) (fun i H' => Same H H' ∧ ∃ ys, H' D = some (.lst ys) ∧ FtnL (cF K) H (opN l i) ys) ⟨Same.new (Same.refl H) hD, [], upd_same, rfl⟩ (fun i H' _ hP => SqT.of (hP.1 _ _ hb)) (fun i x H' T' hx hP hT' => ?_) fun H' hP => ?_
    · obtain ⟨s, ys, hy, hf⟩ := hP
      obtain ⟨t, e1, e2⟩ := hk.get hx
      have hxl := (List.getElem?_eq_some_iff.mp hx).1
      have s1 : Same H (upd H' T' (.tup [.int (i : Nat), x])) := Same.new s hT'
      have eT : upd H' T' (.tup [.int (i : Nat), x]) T' = some (.tup [.int (i : Nat), x]) := upd_same
      have hy1 : upd H' T' (.tup [.int (i : Nat), x]) D = some (.lst ys) := upd_old hy hT'
      generalize upd H' T' (.tup [.int (i : Nat), x]) = H1 at s1 eT hy1 ⊢
      have hlz : ys.length < sizeLine := by
        have h1 := opN_len l i
        have h2 := hf.len
        omega
      have put : opN l (i + 1) = opN l i ++ [t] → ∃ acc, H1 D = some (.lst acc) ∧ acc.length < sizeLine ∧ Same H (upd H1 D (.lst (acc ++ [x]))) ∧ ∃ ys, upd H1 D (.lst (acc ++ [x])) D = some (.lst ys) ∧ FtnL (cF K) H (opN l (i + 1)) ys := fun e => by
        refine ⟨ys, hy1, hlz, fun c o ec => ?_, _, upd_same, ?_⟩
        · rw [upd_ne (ne_of_none ec hD)]
          exact s1 _ _ ec
        · rw [e]
          exact hf.app (FtnL.one e2)
      refine ⟨T', _, rfl, SqT.of eT, rfl, _, _, rfl, _, _, rfl, rfl, rfl, x, rfl, ev_prop (e2.same s1) ⟨_, rfl, ?_⟩⟩
      by_cases hj : t.jts = 0
      · refine ite_f (decide_eq_false (by omega)) ?_
        refine ite_f rfl ⟨s1, ys, hy1, ?_⟩
        rw [opN_no e1 fun z => z.1 hj]
        exact hf
      refine ite_t (decide_eq_true (Nat.pos_of_ne_zero hj)) ?_
      refine ⟨_, rfl, rfl, _, rfl, ?_⟩
      cases i with
      | zero => exact ite_t rfl (ite_t rfl ⟨_, rfl, put (opN_yes e1 ⟨hj, .inl rfl⟩)⟩)
      | succ i =>
        refine ite_f (decide_eq_false fun z => by have := V.int.inj z; omega) ?_
        have hxi : xs[i]? = some xs[i] := List.getElem?_eq_getElem (by omega)
        obtain ⟨u, f1, f2⟩ := hk.get hxi
        refine ⟨_, rfl, _, rfl, _, _, rfl, rfl, b, xs, (i : Int), xs[i], rfl, by rw [Int.natCast_add]; show V.int _ = _; rw [show ((i : Nat) : Int) + ((1 : Nat) : Int) - 1 = (i : Int) by omega], SqT.of (s1 _ _ hb), atI_nat hxi, x, rfl, eq_of (f2.same s1) (e2.same s1) ⟨_, rfl, ?_⟩⟩
        by_cases hu : u = t
        · rw [decide_eq_true hu]
          refine ite_f rfl ⟨s1, ys, hy1, ?_⟩
          rw [opN_no e1 fun z => z.2.elim (fun q => by omega) fun q => q (by rw [Nat.add_sub_cancel, f1, hu])]
          exact hf
        · rw [decide_eq_false hu]
          exact ite_t rfl ⟨_, rfl, put (opN_yes e1 ⟨hj, .inr fun q => hu (by rw [Nat.add_sub_cancel, f1] at q; exact Option.some.inj q)⟩)⟩
    · obtain ⟨s, ys, hy, hf⟩ := hP
      refine k D ys H' hD s hy ?_
      rw [hlen] at hf
      exact hf.same s
def Wds (K : PySem.W.Frag) (H : Hp) (wl : List (List T)) (ws : List V) : Prop := ws.length = wl.length ∧ ∀ (i : Nat) (x : V), ws[i]? = some x → ∃ w b xs, wl[i]? = some w ∧ x = .ref b ∧ SqT K H b xs ∧ FtnL (cF K) H w xs
theorem Wds.same {K : PySem.W.Frag} {H H' : Hp} {wl : List (List T)} {ws : List V} (h : Wds K H wl ws) (s : Same H H') : Wds K H' wl ws := by
  refine ⟨h.1, fun i x hx => ?_⟩
  obtain ⟨w, b, xs, h1, h2, h3, h4⟩ := h.2 i x hx
  exact ⟨w, b, xs, h1, h2, seqTN h3 (.of s), h4.same s⟩
theorem suf_more {s w : List T} (h : s <:+ w) (hl : s.length < w.length) : ∃ b, w[w.length - 1 - s.length]? = some b ∧ b :: s <:+ w := by
  obtain ⟨t, rfl⟩ := h
  rcases List.eq_nil_or_concat t with rfl | ⟨L, b, rfl⟩
  · rw [List.nil_append] at hl
    omega
  · refine ⟨b, ?_, L, by rw [List.concat_eq_append, List.append_assoc]; rfl⟩
    rw [List.concat_eq_append, List.append_assoc, List.length_append, List.length_append, List.length_singleton, List.getElem?_append_right (by omega), show L.length + (1 + s.length) - 1 - s.length - L.length = 0 by omega]
    rfl
theorem atI_neg {α : Type} {xs : List α} {c : Nat} (h : c < xs.length) : atI xs (-1 - (c : Int)) = xs[xs.length - 1 - c]? := by
  unfold atI ixN
  rw [if_neg (by omega), if_pos (by omega)]
  show xs[(-1 - (c : Int) + (xs.length : Int)).toNat]? = _
  rw [show (-1 - (c : Int) + (xs.length : Int)).toNat = xs.length - 1 - c by omega]
theorem ftnL_drop {C : Addr} {H : Hp} : ∀ (n : Nat) {l : List T} {vs : List V}, FtnL C H l vs → FtnL C H (l.drop n) (vs.drop n)
  | 0, _, _, h => h
  | n + 1, [], vs, h => by
    have e : vs = [] := h
    subst e
    exact rfl
  | n + 1, t :: r, vs, h => by
    obtain ⟨v, q, rfl, h1, h2⟩ := (show ∃ v r', vs = v :: r' ∧ Ftn C H t v ∧ FtnL C H r r' from h)
    exact ftnL_drop n h2
theorem fin_whole {sf w1 : List T} {n c : Nat} (h : sf <:+ w1) (hn : n = w1.length) (hc : sf.length = c) (hs : HT.sIx n 0 (some ((n : Int) - (c : Int))) = 0) : sf = w1 := by
  have h1 := h.length_le
  have h2 : min ((n : Int) - (c : Int)).toNat n = 0 := by
    have h3 : HT.sIx n 0 (some ((n : Int) - (c : Int))) = min ((n : Int) - (c : Int)).toNat n := by
      show (if (n : Int) - (c : Int) < 0 then _ else _) = _
      rw [if_neg (by omega)]
    rw [← h3]
    exact hs
  exact h.eq_of_length (by omega)
theorem fin_cut {C : Addr} {H : Hp} {sf w1 : List T} {xs : List V} {c : Nat} (h : sf <:+ w1) (hf : FtnL C H w1 xs) (hc : sf.length = c) : FtnL C H sf (cutV xs (some ((xs.length : Int) - (c : Int))) none) := by
  have h1 := h.length_le
  have hl := hf.len
  have h3 : HT.sIx xs.length 0 (some ((xs.length : Int) - (c : Int))) = w1.length - sf.length := by
    show (if (xs.length : Int) - (c : Int) < 0 then _ else min ((xs.length : Int) - (c : Int)).toNat xs.length) = _
    rw [if_neg (by omega)]
    omega
  have h4 : HT.sIx xs.length xs.length none = xs.length := rfl
  unfold cutV
  rw [h3, h4, List.take_of_length_le (by rw [List.length_drop]; exact Nat.le_refl _)]
  have e := List.suffix_iff_eq_drop.mp h
  have h5 := ftnL_drop (w1.length - sf.length) hf
  rw [← e] at h5
  exact h5
def sp_shared_tail (K : PySem.W.Frag) : Sp := fun vs H Q _ => ∃ a ws wl, vs = [.ref a] ∧ SqL K H a ws ∧ Wds K H wl ws ∧ wl ≠ [] ∧ wl.length ≤ 1048576 ∧ (∀ w ∈ wl, w.length ≤ 1048576) ∧
  ∀ q zs H', Same H H' → SqT K H' q zs → FtnL (cF K) H' (lcsL wl) zs → Q (.ref q) H'
theorem ok_shared_tail  (T : Txt K mg base) : CallD P w K mg base CX0 5 "shared_tail" ["words"] [] (sp_shared_tail K) := by
  refine T.d_shared_tail.ok sc_shared_tail (fun vs H Q E h => ?_) (fun f cdv A outer s H vs Q E hr h => ?_)
  · obtain ⟨a, ws, wl, rfl, _⟩ := h
    rfl
  · obtain ⟨a, ws, wl, rfl, hs, hw, hne, hz, hzw, k⟩ := h
    have hsl := sizeLine_eq
    refine ⟨_, (pss_cons (ps_set (i := 1) sc_shared_tail.nd rfl (by first | exact Or.inl rfl | exact Or.inr rfl) (pe_callB (cr_min rfl) (by rfl) T.n_min (by decide +kernel) (pa_cons (pe_lc (own := [("word", 3)]) (g := gName 3) (tt := tYes) (by rfl) sc_shared_tail.nd (pi_list (pv 0)) (blkOk_by (by kernel_rfl)) (fun _ _ _ _ _ => pg_name (i := 3) sc_shared_tail.nd rfl (by first | exact Or.inl rfl | exact Or.inr rfl)) (fun _ _ _ _ _ => pts_nil) (fun _ _ _ _ _ => (pe_callB (call_lenK (K := K) rfl ) (by rfl) T.n_len (by decide +kernel) (pa_cons (pv 3) pa_nil)))) pa_nil)))
      (pss_cons (ps_set (i := 2) sc_shared_tail.nd rfl (by first | exact Or.inl rfl | exact Or.inr rfl) pe_int)
      (pss_cons (ps_while PassesOwn.never (PW.pt (pw_and (pt_cmpR op_lt (pv 2) (pv 1) (nomark _)) (pw_and1 (pt_val (pe_callB (cr_all rfl) (by rfl) T.n_all (by decide +kernel) (pa_cons (pe_lc (own := [("word", 3)]) (g := gName 3) (tt := tYes) (by rfl) sc_shared_tail.nd (pi_list (pv 0)) (blkOk_by (by kernel_rfl)) (fun _ _ _ _ _ => pg_name (i := 3) sc_shared_tail.nd rfl (by first | exact Or.inl rfl | exact Or.inr rfl)) (fun _ _ _ _ _ => pts_nil) (fun _ _ _ _ _ => (pe_cmpR (op_own_eq (ok_Fountain___eq__ T) (hr.mono (by decide)) pass0) (pe_ix (ix_tupK (K := K) rfl ) (pv 3) (pe_op op_sub (pe_un un_neg pe_int) (pv 2)) (fun _ _ => rfl)) (pe_ix (ix_tupK (K := K) rfl ) (pe_ix (ix_listK (K := K) rfl ) (pv 0) pe_int (fun _ _ => rfl)) (pe_op op_sub (pe_un un_neg pe_int) (pv 2)) (fun _ _ => rfl)) (nomark _)))) pa_nil))))))
        (pss_one (ps_aug (i := 2) sc_shared_tail.nd rfl (by first | exact Or.inl rfl | exact Or.inr rfl) pe_int ip_add)))
      (pss_one (ps_ret (pe_slice sl_tupA (pe_ix ix_list (pv 0) pe_int (fun _ _ => rfl)) (po_some (pe_op op_sub (pe_callB call_len (by rfl) T.n_len (by decide +kernel) (pa_cons (pe_ix ix_list (pv 0) pe_int (fun _ _ => rfl)) pa_nil)) (pv 2))) po_none)))))), ?_⟩
    have hwl := hw.1
    refine ⟨.ref a, rfl, a, rfl, ⟨ws, hs⟩, fun D hD => lc_eachL (ys := wl.map fun w => V.int (w.length : Nat)) hD hs (by omega) (by rw [List.length_map, hwl]) (fun _ => rfl) (fun i x y H' Q' hx hy s hDn q => ?_) fun H1 s1 e1 => ?_⟩
    · obtain ⟨w, b, xs, h1, rfl, h3, h4⟩ := hw.2 i x hx
      rw [List.getElem?_map, h1] at hy
      obtain rfl := Option.some.inj hy
      refine ⟨_, rfl, .ref b, xs.length, rfl, .inr ⟨xs, seqTN h3 (.of s), rfl⟩, ?_⟩
      rw [h4.len]
      exact q _ (Same.refl _)
    refine ⟨D, wl.map fun w => (w.length : Int), rfl, SqL.of (by rw [e1, List.map_map]; rfl), by rw [List.length_map]; exact List.length_pos_iff.mpr hne, fun m h1 h2 => ?_⟩
    obtain ⟨w0, hw0, rfl⟩ := List.mem_map.mp h1
    have hle : ∀ w ∈ wl, w0.length ≤ w.length := fun w hw => by
      have := h2 _ (List.mem_map_of_mem (f := fun w => ((w : List JW.T).length : Int)) hw)
      omega
    have hwz : wl[0]? = some (wl.head hne) := by
      cases wl with
      | nil => exact absurd rfl hne
      | cons w r => rfl
    obtain ⟨w1, b1, xs1, g1, g2, g3, g4⟩ := hw.2 0 (ws[0]'(by have := List.length_pos_iff.mpr hne; omega)) (List.getElem?_eq_getElem _)
    have hws0 : ws[0]? = some (.ref b1) := by rw [List.getElem?_eq_getElem (by have := List.length_pos_iff.mpr hne; omega), g2]
    have hw1 : w1 ∈ wl := List.mem_of_getElem? g1
    refine ⟨fun m σ' H' => ∃ (c : Nat) (v3 : Option V) (s : List JW.T), m = w0.length - c ∧ σ' = [some (.ref a), some (.int (w0.length : Nat)), some (.int (c : Nat)), v3] ∧ s.length = c ∧ c ≤ w0.length ∧ (∀ w ∈ wl, s <:+ w) ∧ Same H H', ⟨_, 0, none, [], rfl, rfl, rfl, Nat.zero_le _, fun w _ => List.nil_suffix, s1⟩, ?_⟩
    rintro m σ' H2 ⟨c, v3, sf, rfl, rfl, hc, hcl, hsf, s2⟩
    have fin1 : c = w0.length → lcsL wl = sf := fun e => by
      have e0 : sf = w0 := (hsf w0 hw0).eq_of_length (by omega)
      exact lcs_eq hne hsf fun x hx => e0 ▸ hx w0 hw0
    refine ⟨_, rfl, _, rfl, _, _, rfl, rfl, _, rfl, ?_⟩
    by_cases hlt : c < w0.length
    case neg =>
      refine ite_f (decide_eq_false (by omega)) ?_
      refine ite_f rfl ?_
      · have el : lcsL wl = sf := fin1 (by omega)
        refine ⟨.ref a, rfl, a, ws, 0, .ref b1, rfl, rfl, seqN hs (.of s2), atI_nat (j := 0) hws0, .ref a, rfl, a, ws, 0, .ref b1, rfl, rfl, seqN hs (.of s2), atI_nat (j := 0) hws0, .ref b1, xs1.length, rfl, .inr ⟨xs1, seqTN g3 (.of s2), rfl⟩, _, rfl, _, _, rfl, rfl, _, rfl, b1, xs1, rfl, seqTN g3 (.of s2), fun hwh => ?_, fun hnw p hp => ?_⟩
        · refine k b1 xs1 _ s2 (seqTN g3 (.of s2)) ?_
          rw [el, fin_whole (hsf w1 hw1) g4.len hc hwh.1]
          exact g4.same s2
        · refine k p _ _ (Same.new s2 hp) (SqT.of upd_same) ?_
          rw [el]
          exact fin_cut (hsf w1 hw1) (g4.same (Same.new s2 hp)) hc
    refine ite_t (decide_eq_true (by omega)) ?_
    obtain ⟨u1, hu1, hsu1⟩ := suf_more (hsf w1 hw1) (by have := hle w1 hw1; omega)
    rw [hc] at hu1
    have hl1 := g4.len
    have hc1 := hle w1 hw1
    have hx1 : xs1[xs1.length - 1 - c]? = some (xs1[xs1.length - 1 - c]'(by omega)) := List.getElem?_eq_getElem (by omega)
    obtain ⟨u1', hu1', fu1⟩ := g4.get hx1
    rw [hl1, hu1] at hu1'
    obtain rfl := Option.some.inj hu1'
    have hs2 := seqN hs (.of s2)
    refine ⟨.ref a, rfl, a, rfl, ⟨ws, hs2⟩, fun D3 hD3 => lc_eachL (ys := wl.map fun w => V.bl (decide (w[w.length - 1 - c]? = some u1))) hD3 hs2 (by omega) (by rw [List.length_map, hwl]) (fun _ => rfl) (fun i x y H' Q' hx hy s' hDn q => ?_) fun H4 s4' e4 => ?_⟩
    · obtain ⟨w, b, xs, h1, rfl, h3, h4⟩ := hw.2 i x hx
      rw [List.getElem?_map, h1] at hy
      obtain rfl := Option.some.inj hy
      have hwm := List.mem_of_getElem? h1
      have hlw := h4.len
      have hcw := hle w hwm
      have hxw : xs[xs.length - 1 - c]? = some (xs[xs.length - 1 - c]'(by omega)) := List.getElem?_eq_getElem (by omega)
      obtain ⟨t, ht, ft⟩ := h4.get hxw
      rw [hlw] at ht
      have sA : Same H H' := s2.trans s'
      refine ⟨.ref b, rfl, _, rfl, _, rfl, _, _, rfl, rfl, b, xs, _, _, rfl, rfl, seqTN h3 (.of sA), (atI_neg (by omega)).trans hxw, .ref a, rfl, a, ws, 0, .ref b1, rfl, rfl, seqN hs (.of sA), atI_nat (j := 0) hws0, _, rfl, _, rfl, _, _, rfl, rfl, b1, xs1, _, _, rfl, rfl, seqTN g3 (.of sA), (atI_neg (by omega)).trans hx1, eq_of (ft.same sA) (fu1.same sA) ?_⟩
      have e5 : decide (w[w.length - 1 - c]? = some u1) = decide (t = u1) := by
        rw [ht]
        exact decide_eq_decide.mpr ⟨fun z => Option.some.inj z, fun z => by rw [z]⟩
      have q2 : Q' (V.bl (decide (w[w.length - 1 - c]? = some u1))) H' := q _ (Same.refl _)
      rw [e5] at q2
      exact q2
    have s4 : Same H H4 := s2.trans s4'
    refine ⟨D3, wl.map fun w => decide (w[w.length - 1 - c]? = some u1), rfl, SqL.of (by rw [e4, List.map_map]; rfl), _, rfl, ?_⟩
    by_cases hall : ∀ w ∈ wl, w[w.length - 1 - c]? = some u1
    case pos =>
      refine ite_t (List.all_eq_true.mpr fun z hz => ?_) ⟨fun σ' H' => σ' = [some (.ref a), some (.int (w0.length : Nat)), some (.int ((c + 1 : Nat) : Int)), v3] ∧ Same H H', ?_, ?_⟩
      · obtain ⟨w, hw', rfl⟩ := List.mem_map.mp hz
        exact decide_eq_true (hall w hw')
      · rintro σ' H' ⟨rfl, s5⟩
        refine ⟨w0.length - (c + 1), by omega, c + 1, v3, u1 :: sf, rfl, rfl, by rw [List.length_cons, hc], by omega, fun w hw' => ?_, s5⟩
        obtain ⟨b, hb, hsb⟩ := suf_more (hsf w hw') (by have := hle w hw'; omega)
        rw [hc, hall w hw'] at hb
        rw [Option.some.inj hb]
        exact hsb
      · exact ⟨_, rfl, _, _, rfl, rfl, rfl, s4⟩
    have fin2 : lcsL wl = sf := by
      refine lcs_eq hne hsf fun x hx => ?_
      by_cases hlx : x.length ≤ sf.length
      · exact List.suffix_of_suffix_length_le (hx w1 hw1) (hsf w1 hw1) hlx
      · refine absurd (fun w hw' => ?_) hall
        obtain ⟨b, hb, hsb⟩ := suf_more (hsf w hw') (by have := hle w hw'; omega)
        have h6 : u1 :: sf <:+ x := List.suffix_of_suffix_length_le hsu1 (hx w1 hw1) (by rw [List.length_cons]; omega)
        have h7 : b :: sf <:+ x := List.suffix_of_suffix_length_le hsb (hx w hw') (by rw [List.length_cons]; omega)
        have h8 : u1 :: sf = b :: sf := suf_anti (List.suffix_of_suffix_length_le h6 h7 (by simp)) (List.suffix_of_suffix_length_le h7 h6 (by simp))
        rw [hc] at hb
        rw [hb, (List.cons.inj h8).1]
    refine ite_f ?_ ?_
    · refine Bool.eq_false_iff.mpr fun z => hall fun w hw' => ?_
      have h9 := List.all_eq_true.mp z _ (List.mem_map_of_mem (f := fun w => decide ((w : List JW.T)[w.length - 1 - c]? = some u1)) hw')
      exact of_decide_eq_true h9
    · have el : lcsL wl = sf := fin2
      refine ⟨.ref a, rfl, a, ws, 0, .ref b1, rfl, rfl, seqN hs (.of s4), atI_nat (j := 0) hws0, .ref a, rfl, a, ws, 0, .ref b1, rfl, rfl, seqN hs (.of s4), atI_nat (j := 0) hws0, .ref b1, xs1.length, rfl, .inr ⟨xs1, seqTN g3 (.of s4), rfl⟩, _, rfl, _, _, rfl, rfl, _, rfl, b1, xs1, rfl, seqTN g3 (.of s4), fun hwh => ?_, fun hnw p hp => ?_⟩
      · refine k b1 xs1 _ s4 (seqTN g3 (.of s4)) ?_
        rw [el, fin_whole (hsf w1 hw1) g4.len hc hwh.1]
        exact g4.same s4
      · refine k p _ _ (Same.new s4 hp) (SqT.of upd_same) ?_
        rw [el]
        exact fin_cut (hsf w1 hw1) (g4.same (Same.new s4 hp)) hc
def sp_bare (K : PySem.W.Frag) (n : Nat) : Sp := fun vs H Q _ => ∃ v t b u q ps, vs = [v, u, .ref q] ∧ Ftn (cF K) H t v ∧ Ftn (cF K) H b u ∧ H q = some (.tup ps) ∧ ps.length + t.dep ≤ 10000 ∧ t.dep < n ∧ cov b t = true ∧ ∀ H', Same H H' → Q .non H'
theorem step_bare_place  (T : Txt K mg base) (n : Nat) (ih : CallD P w K mg base CX0 (3 + n) "bare_place" ["fountain", "part", "path"] [] (sp_bare K n)) : CallD P w K mg base CX0 (3 + n + 1) "bare_place" ["fountain", "part", "path"] [] (sp_bare K (n + 1)) := by
  refine T.d_bare_place.ok sc_bare_place (fun vs H Q E h => ?_) (fun f cdv A outer s H vs Q E hr h => ?_)
  · obtain ⟨v, t, b, u, q, ps, rfl, _⟩ := h
    rfl
  · obtain ⟨v, t, b, u, q, ps, rfl, hv, hu, hq, hps, hn, hc, k⟩ := h
    obtain ⟨av, dv, bv, nv, xv, rfl, hav, hbv, hnv, hkv⟩ := ftn_iff.mp hv
    obtain ⟨au, du, bu, nu, xu, rfl, hau, hbu, hnu, hku⟩ := ftn_iff.mp hu
    have hsl := sizeLine_eq
    refine ⟨_, (pss_cons (ps_if (pt_cmpR (op_own_eq (ok_Fountain___eq__ T) (hr.mono (by omega)) pass0) (pv 0) (pv 1) (nomark _))
        (pss_one (ps_ret pe_non))
        pss_nil)
      (pss_cons (ps_if (pt_val (pe_propD T.cls.c (ok_Fountain_is_jet T) (hr.mono (by omega)) pass0 (pv 0) rfl))
        pss_never
        pss_nil)
      (pss_cons (ps_for PassesOwn.never rfl (pi_enumT (by rfl) T.n_enumerate (pa_cons (pe_propD T.cls.c (ok_Fountain_parts T) (hr.mono (by omega)) pass0 (pv 0) rfl) pa_nil)) (pg_tup rfl (pgs_cons (pg_name (i := 3) sc_bare_place.nd rfl (by first | exact Or.inl rfl | exact Or.inr rfl)) (pgs_cons (pg_name (i := 4) sc_bare_place.nd rfl (by first | exact Or.inl rfl | exact Or.inr rfl)) pgs_nil)))
        (pss_cons (ps_set (i := 5) sc_bare_place.nd rfl (by first | exact Or.inl rfl | exact Or.inr rfl) (pe_callD ih (hr.mono (by omega)) (by rfl) pass0 (pa_cons (pv 4) (pa_cons (pv 1) (pa_cons (pe_op op_catA (pv 2) (pe_tup (pa_cons (pv 3) pa_nil))) pa_nil)))))
        (pss_one (ps_if (pt_cmpR op_notN (pv 5) pe_non (nomark _))
          pss_never
          pss_nil))))
      (pss_one (ps_ret pe_non))))), ?_⟩
    refine ⟨.ref av, rfl, .ref au, rfl, av, dv, _, au, du, _, rfl, rfl, hav, hau, ⟨_, t, _, b, rfl, hv, hu, _, rfl, _, rfl, ite2 (fun e => k _ (Same.refl H)) fun e => ?_⟩⟩
    have hne : t ≠ b := fun z => e (decide_eq_true z)
    cases t with
    | jet =>
      have h2 : decide (JW.T.jet = b) = true := hc
      exact absurd (of_decide_eq_true h2) hne
    | bas l =>
      have hcl : covL b l = true := by
        have h2 : (decide (JW.T.bas l = b) || covL b l) = true := hc
        rw [decide_eq_false hne, Bool.false_or] at h2
        exact h2
      refine ⟨.ref av, rfl, ev_prop hv ⟨_, rfl, ite_f (decide_eq_false fun z => by cases z) ⟨.ref av, rfl, ev_kids hv fun b' xs' hb' hk' => ⟨b', xs', rfl, SqT.of hb', ?_⟩⟩⟩⟩
      refine for_enumT (xs := xs') (fun i σ H' => ∃ v3 v4 v5 : Option V, σ = [some (.ref av), some (.ref au), some (.ref q), v3, v4, v5] ∧ Same H H') ⟨none, none, none, rfl, Same.refl H⟩ (fun i σ H' _ p => ?_) (fun i x σ H' T' hx p hT' => ?_) fun σ H' p => ?_
      · obtain ⟨_, _, _, _, s⟩ := p
        exact SqT.of (s _ _ hb')
      · obtain ⟨v3, v4, v5, rfl, s⟩ := p
        have hk2 : FtnL (cF K) H l xs' := hk'
        obtain ⟨t', e1, e2⟩ := hk2.get hx
        have hm := List.mem_of_getElem? e1
        have h1 := dep_lt hm
        have s1 : Same H (upd H' T' (.tup [.int (i : Nat), x])) := Same.new s hT'
        have eT : upd H' T' (.tup [.int (i : Nat), x]) T' = some (.tup [.int (i : Nat), x]) := upd_same
        generalize upd H' T' (.tup [.int (i : Nat), x]) = H1 at s1 eT ⊢
        have hq1 : H1 q = some (.tup ps) := s1 _ _ hq
        refine ⟨T', _, rfl, SqT.of eT, rfl, _, _, rfl, _, _, rfl, rfl, x, rfl, .ref au, rfl, .ref q, rfl, .int i, rfl, sz1, fun q1 hn1 => ⟨q, q1, ps, [.int i], rfl, rfl, SqT.of (upd_old hq1 hn1), SqT.of upd_same, ?_, fun hp0 => ?_, fun _ z => absurd z (by simp), fun _ _ q2 hn2 => ?_⟩⟩
        · show ps.length + 1 ≤ sizeLine
          omega
        · have s3 : Same H1 (upd H1 q1 (.tup [.int (i : Nat)])) := Same.new (Same.refl H1) hn1
          exact ⟨x, t', b, .ref au, q1, [.int i], rfl, e2.same (s1.trans s3), hu.same (s1.trans s3), upd_same, by show 1 + t'.dep ≤ _; omega, by omega, covL_all.mp hcl t' hm, fun H4 s4 => ⟨.non, rfl, rfl, _, rfl, ite_f rfl ⟨_, _, _, rfl, (s1.trans s3).trans s4⟩⟩⟩
        · have s3 : Same H1 (upd (upd H1 q1 (.tup [.int (i : Nat)])) q2 (.tup (ps ++ [.int (i : Nat)]))) := Same.new (Same.new (Same.refl H1) hn1) hn2
          exact ⟨x, t', b, .ref au, q2, ps ++ [.int i], rfl, e2.same (s1.trans s3), hu.same (s1.trans s3), upd_same, by rw [List.length_append, List.length_singleton]; omega, by omega, covL_all.mp hcl t' hm, fun H4 s4 => ⟨.non, rfl, rfl, _, rfl, ite_f rfl ⟨_, _, _, rfl, (s1.trans s3).trans s4⟩⟩⟩
      · obtain ⟨v3, v4, v5, rfl, s⟩ := p
        exact k _ s
theorem ok_bare_place  (T : Txt K mg base) (n : Nat) : CallD P w K mg base CX0 (3 + n) "bare_place" ["fountain", "part", "path"] [] (sp_bare K n) := callD_rec (sp := sp_bare K) T.d_bare_place (by
    rintro vs H Q E ⟨v, t, b, u, q, ps, _, _, _, _, _, z, _⟩
    exact absurd z (Nat.not_lt_zero _)
    ) (step_bare_place T) n
theorem ok_Fountain_size  (T : Txt K mg base) : PropD P w K mg base CX0 1 (cF K) "size" (spV K fun t => .int (t.size : Nat)) := by
  refine T.p_size.ok sc_Fountain_size (fun vs H Q E h => ?_) (fun f cdv A outer s H vs Q E hr h => ?_)
  · obtain ⟨v, t, rfl, _⟩ := h
    rfl
  · obtain ⟨v, t, rfl, hf, k⟩ := h
    obtain ⟨a, dx, b, n, vs, rfl, ha, hb, hn, hk⟩ := ftn_iff.mp hf
    refine ⟨_, (pss_one (ps_ret (pe_ix ix_tup (pe_fld (pv 0) rfl) pe_int (fun _ _ => rfl)))), ?_⟩
    exact ⟨.ref a, rfl, a, _, dx, _, _, rfl, ha, T.cls.c, T.cls.nn, fl_n, n, _, _, _, rfl, rfl, SqT.of hn, rfl, k⟩
theorem ok_Fountain_jets  (T : Txt K mg base) : PropD P w K mg base CX0 1 (cF K) "jets" (spV K fun t => .int (t.jts : Nat)) := by
  refine T.p_jets.ok sc_Fountain_jets (fun vs H Q E h => ?_) (fun f cdv A outer s H vs Q E hr h => ?_)
  · obtain ⟨v, t, rfl, _⟩ := h
    rfl
  · obtain ⟨v, t, rfl, hf, k⟩ := h
    obtain ⟨a, dx, b, n, vs, rfl, ha, hb, hn, hk⟩ := ftn_iff.mp hf
    refine ⟨_, (pss_one (ps_ret (pe_ix ix_tup (pe_fld (pv 0) rfl) pe_int (fun _ _ => rfl)))), ?_⟩
    exact ⟨.ref a, rfl, a, _, dx, _, _, rfl, ha, T.cls.c, T.cls.nn, fl_n, n, _, _, _, rfl, rfl, SqT.of hn, rfl, k⟩
theorem ok_Fountain_depth  (T : Txt K mg base) : PropD P w K mg base CX0 1 (cF K) "depth" (spV K fun t => .int (t.dep : Nat)) := by
  refine T.p_depth.ok sc_Fountain_depth (fun vs H Q E h => ?_) (fun f cdv A outer s H vs Q E hr h => ?_)
  · obtain ⟨v, t, rfl, _⟩ := h
    rfl
  · obtain ⟨v, t, rfl, hf, k⟩ := h
    obtain ⟨a, dx, b, n, vs, rfl, ha, hb, hn, hk⟩ := ftn_iff.mp hf
    refine ⟨_, (pss_one (ps_ret (pe_ix ix_tup (pe_fld (pv 0) rfl) pe_int (fun _ _ => rfl)))), ?_⟩
    exact ⟨.ref a, rfl, a, _, dx, _, _, rfl, ha, T.cls.c, T.cls.nn, fl_n, n, _, _, _, rfl, rfl, SqT.of hn, rfl, k⟩
theorem ok_Fountain_longest  (T : Txt K mg base) : PropD P w K mg base CX0 1 (cF K) "longest" (spV K fun t => if t.jts = 0 then .non else .int (t.lng : Nat)) := by
  refine T.p_longest.ok sc_Fountain_longest (fun vs H Q E h => ?_) (fun f cdv A outer s H vs Q E hr h => ?_)
  · obtain ⟨v, t, rfl, _⟩ := h
    rfl
  · obtain ⟨v, t, rfl, hf, k⟩ := h
    obtain ⟨a, dx, b, n, vs, rfl, ha, hb, hn, hk⟩ := ftn_iff.mp hf
    refine ⟨_, (pss_one (ps_ret (pe_ix ix_tup (pe_fld (pv 0) rfl) pe_int (fun _ _ => rfl)))), ?_⟩
    exact ⟨.ref a, rfl, a, _, dx, _, _, rfl, ha, T.cls.c, T.cls.nn, fl_n, n, _, _, _, rfl, rfl, SqT.of hn, rfl, k⟩
theorem ok_Fountain_shortest  (T : Txt K mg base) : PropD P w K mg base CX0 1 (cF K) "shortest" (spV K fun t => if t.jts = 0 then .non else .int (t.sht : Nat)) := by
  refine T.p_shortest.ok sc_Fountain_shortest (fun vs H Q E h => ?_) (fun f cdv A outer s H vs Q E hr h => ?_)
  · obtain ⟨v, t, rfl, _⟩ := h
    rfl
  · obtain ⟨v, t, rfl, hf, k⟩ := h
    obtain ⟨a, dx, b, n, vs, rfl, ha, hb, hn, hk⟩ := ftn_iff.mp hf
    refine ⟨_, (pss_one (ps_ret (pe_ix ix_tup (pe_fld (pv 0) rfl) pe_int (fun _ _ => rfl)))), ?_⟩
    exact ⟨.ref a, rfl, a, _, dx, _, _, rfl, ha, T.cls.c, T.cls.nn, fl_n, n, _, _, _, rfl, rfl, SqT.of hn, rfl, k⟩
def sp_basin_numbers (K : PySem.W.Frag) : Sp := fun vs H Q _ => ∃ b xs l, vs = [.ref b] ∧ H b = some (.tup xs) ∧ FtnL (cF K) H l xs ∧ xs.length < sizeLine ∧ ∀ H' p, Same H H' → H' p = some (.tup (nums (.bas l))) → Q (.ref p) H'
theorem ok_basin_numbers  (T : Txt K mg base) : CallD P w K mg base CX0 3 "basin_numbers" ["branches"] [] (sp_basin_numbers K) := by
  refine T.d_basin_numbers.ok sc_basin_numbers (fun vs H Q E h => ?_) (fun f cdv A outer s H vs Q E hr h => ?_)
  · obtain ⟨b, xs, l, rfl, _⟩ := h
    rfl
  · obtain ⟨b, xs, l, rfl, hb, hl, hz, k⟩ := h
    refine ⟨_, (pss_cons (ps_set (i := 1) sc_basin_numbers.nd rfl (by first | exact Or.inl rfl | exact Or.inr rfl) (pe_op op_add pe_int (pe_callB (cr_sum rfl) (by rfl) T.n_sum (by decide +kernel) (pa_cons (pe_lc (own := [("branch", 6)]) (g := gName 6) (tt := tYes) (by rfl) sc_basin_numbers.nd (pi_tup (pv 0)) (blkOk_by (by kernel_rfl)) (fun _ _ _ _ _ => pg_name (i := 6) sc_basin_numbers.nd rfl (by first | exact Or.inl rfl | exact Or.inr rfl)) (fun _ _ _ _ _ => pts_nil) (fun _ _ _ _ _ => (pe_propD T.cls.c (ok_Fountain_size T) (hr.mono (by decide)) pass0 (pv 6) rfl))) pa_nil))))
      (pss_cons (ps_set (i := 2) sc_basin_numbers.nd rfl (by first | exact Or.inl rfl | exact Or.inr rfl) (pe_callB (cr_sum rfl) (by rfl) T.n_sum (by decide +kernel) (pa_cons (pe_lc (own := [("branch", 6)]) (g := gName 6) (tt := tYes) (by rfl) sc_basin_numbers.nd (pi_tup (pv 0)) (blkOk_by (by kernel_rfl)) (fun _ _ _ _ _ => pg_name (i := 6) sc_basin_numbers.nd rfl (by first | exact Or.inl rfl | exact Or.inr rfl)) (fun _ _ _ _ _ => pts_nil) (fun _ _ _ _ _ => (pe_propD T.cls.c (ok_Fountain_jets T) (hr.mono (by decide)) pass0 (pv 6) rfl))) pa_nil)))
      (pss_cons (ps_set (i := 3) sc_basin_numbers.nd rfl (by first | exact Or.inl rfl | exact Or.inr rfl) (pe_op op_add pe_int (pe_callBK (cr_maxDf rfl (hu_of hr)) (by rfl) T.n_max (by decide +kernel) (pa_cons (pe_lc (own := [("branch", 6)]) (g := gName 6) (tt := tYes) (by rfl) sc_basin_numbers.nd (pi_tup (pv 0)) (blkOk_by (by kernel_rfl)) (fun _ _ _ _ _ => pg_name (i := 6) sc_basin_numbers.nd rfl (by first | exact Or.inl rfl | exact Or.inr rfl)) (fun _ _ _ _ _ => pts_nil) (fun _ _ _ _ _ => (pe_propD T.cls.c (ok_Fountain_depth T) (hr.mono (by decide)) pass0 (pv 6) rfl))) pa_nil) (pk_cons pe_int pk_nil))))
      (pss_cons (ps_setLc (i := 4) (own := [("branch", 6)]) (g := gName 6) (by rfl) sc_basin_numbers.nd rfl rfl (sw_true rfl rfl rfl (by decide +kernel)) (pi_tup (pv 0)) (blkOk_by (by kernel_rfl)) (fun _ _ _ _ _ => pg_name (i := 6) sc_basin_numbers.nd rfl (by first | exact Or.inl rfl | exact Or.inr rfl)) (fun _ _ _ _ _ => pts_one (pt_val (pe_propD T.cls.c (ok_Fountain_is_open T) (hr.mono (by decide)) pass0 (pv 6) rfl))) (fun _ _ _ _ _ => (pv 6)))
      (pss_cons (ps_if (pt_cmpR op_eq (pe_callB call_len (by rfl) T.n_len (by decide +kernel) (pa_cons (pv 4) pa_nil)) pe_int (nomark _))
        (pss_one (ps_ret (pe_tup (pa_cons (pv 1) (pa_cons (pv 2) (pa_cons (pv 3) (pa_cons pe_non (pa_cons pe_non pa_nil))))))))
        pss_nil)
      (pss_cons (ps_set (i := 5) sc_basin_numbers.nd rfl (by first | exact Or.inl rfl | exact Or.inr rfl) (pe_op op_add pe_int (pe_callB (cr_max rfl) (by rfl) T.n_max (by decide +kernel) (pa_cons (pe_lc (own := [("branch", 6)]) (g := gName 6) (tt := tYes) (by rfl) sc_basin_numbers.nd (pi_list (pv 4)) (blkOk_by (by kernel_rfl)) (fun _ _ _ _ _ => pg_name (i := 6) sc_basin_numbers.nd rfl (by first | exact Or.inl rfl | exact Or.inr rfl)) (fun _ _ _ _ _ => pts_nil) (fun _ _ _ _ _ => (pe_propD T.cls.c (ok_Fountain_longest T) (hr.mono (by decide)) pass0 (pv 6) rfl))) pa_nil))))
      (pss_one (ps_ret (pe_tup (pa_cons (pv 1) (pa_cons (pv 2) (pa_cons (pv 3) (pa_cons (pv 5) (pa_cons (pe_op op_add pe_int (pe_callB (cr_min rfl) (by rfl) T.n_min (by decide +kernel) (pa_cons (pe_lc (own := [("branch", 6)]) (g := gName 6) (tt := tYes) (by rfl) sc_basin_numbers.nd (pi_list (pv 4)) (blkOk_by (by kernel_rfl)) (fun _ _ _ _ _ => pg_name (i := 6) sc_basin_numbers.nd rfl (by first | exact Or.inl rfl | exact Or.inr rfl)) (fun _ _ _ _ _ => pts_nil) (fun _ _ _ _ _ => (pe_propD T.cls.c (ok_Fountain_shortest T) (hr.mono (by decide)) pass0 (pv 6) rfl))) pa_nil))) pa_nil)))))))))))))), ?_⟩
    refine ⟨.ref b, rfl, b, rfl, ⟨xs, SqT.of hb⟩, fun D1 hD1 => lc_propT hD1 (SqT.of hb) hl hz (fun _ => rfl) (fun _ => rfl) fun H1 s1 e1 => ?_⟩
    refine ⟨D1, l.map fun t => (t.size : Int), rfl, SqL.of (by rw [e1, List.map_map]; rfl), _, _, rfl, rfl, ?_⟩
    have hb1 := s1 _ _ hb
    have hl1 := hl.same s1
    refine ⟨.ref b, rfl, b, rfl, ⟨xs, SqT.of hb1⟩, fun D2 hD2 => lc_propT hD2 (SqT.of hb1) hl1 hz (fun _ => rfl) (fun _ => rfl) fun H2 s2 e2 => ?_⟩
    refine ⟨D2, l.map fun t => (t.jts : Int), rfl, SqL.of (by rw [e2, List.map_map]; rfl), ?_⟩
    have hb2 := s2 _ _ hb1
    have hl2 := hl1.same s2
    refine ⟨.ref b, rfl, b, rfl, ⟨xs, SqT.of hb2⟩, fun D3 hD3 => lc_propT hD3 (SqT.of hb2) hl2 hz (fun _ => rfl) (fun _ => rfl) fun H3 s3 e3 => ?_⟩
    have hb3 := s3 _ _ hb2
    have hl3 := hl2.same s3
    refine ⟨D3, l.map fun t => (t.dep : Int), _, rfl, rfl, SqL.of (by rw [e3, List.map_map]; rfl), fun m hm => ?_⟩
    have em : m = (depL l : Nat) := by
      rcases hm with ⟨hn, e⟩ | ⟨n, r, hn, e⟩
      · rw [e]
        cases l with
        | nil => rfl
        | cons t q => cases hn
      · rw [e]
        exact dep_fold hn
    subst em
    refine ⟨_, _, rfl, rfl, ?_⟩
    refine ⟨.ref b, rfl, b, rfl, ⟨xs, SqT.of hb3⟩, fun D4 hD4 => lc_someT (bs := l.map opn) hD4 (SqT.of hb3) hz (by rw [List.length_map, hl.len]) (fun _ => rfl) (fun i x b H Q hx hb s q => ?_) (fun i x H Q hx s q => ⟨x, rfl, q H (Same.refl H)⟩) fun H4 s4 e4 => ?_⟩
    · obtain ⟨t, e1, e2⟩ := hl3.get hx
      rw [map_get e1 hb] at q
      exact ⟨x, rfl, ev_prop (e2.same s) ⟨_, rfl, q H (Same.refl H)⟩⟩
    have hl4 : FtnL (cF K) H4 (l.filter opn) _ := FtnL.filter (p := opn) (hl3.same s4)
    have hlen := hl4.len
    have hle : (l.filter opn).length ≤ l.length := List.length_filter_le _ _
    have hxl := hl.len
    have eS : (l.map fun t => (t.size : Int)).sum = (sizeL l : Nat) := by
      rw [sizeL_sum, ← nI_sum, List.map_map]
      rfl
    have eJ : (l.map fun t => (t.jts : Int)).sum = (jtsL l : Nat) := by
      rw [jtsL_sum, ← nI_sum, List.map_map]
      rfl
    have sAll : Same H H4 := (s1.trans s2).trans (s3.trans s4)
    refine ⟨.ref D4, rfl, .ref D4, _, rfl, .inl ⟨_, SqL.of e4, rfl⟩, rfl, _, rfl, ite2 (fun e => ?_) fun e => ?_⟩
    · have e0 : jtsL l = 0 := by
        refine jtsL_zero.mpr (List.eq_nil_of_length_eq_zero ?_)
        have := of_decide_eq_true e
        injection this with this
        omega
      refine ⟨_, rfl, _, rfl, _, rfl, sz5, fun p hp => ?_⟩
      refine k _ p (Same.new sAll hp) ?_
      rw [upd_same, eS, eJ, e0]
      show some (HO.tup [V.int (1 + (sizeL l : Nat)), V.int ((0 : Nat) : Int), V.int (1 + (depL l : Nat)), V.non, V.non]) = some (HO.tup [V.int ((1 + sizeL l : Nat) : Int), V.int (jtsL l : Nat), V.int ((1 + depL l : Nat) : Int), if jtsL l = 0 then V.non else V.int ((1 + lngL l : Nat) : Int), if jtsL l = 0 then V.non else V.int ((1 + shtL l : Nat) : Int)])
      rw [if_pos e0, if_pos e0, e0, Int.natCast_add, Int.natCast_add]
      rfl
    · have e0 : jtsL l ≠ 0 := fun z => by
        refine e (decide_eq_true ?_)
        rw [hlen, jtsL_zero.mp z]
        rfl
      have hne : (l.filter opn).length ≠ 0 := fun z => e0 (jtsL_zero.mpr (List.eq_nil_of_length_eq_zero z))
      have hz4 : (((xs.zip (l.map opn)).filter (·.2)).map (·.1)).length < sizeLine := by omega
      have hD4' : H4 D4 = some (HO.lst (((xs.zip (l.map opn)).filter (·.2)).map (·.1))) := e4
      refine ⟨.ref D4, rfl, D4, rfl, ⟨_, SqL.of hD4'⟩, fun D5 hD5 => lc_propL hD5 (SqL.of hD4') hl4 hz4 (fun _ => rfl) (fun _ => rfl) fun H5 s5 e5 => ?_⟩
      have eL : ∀ t ∈ l.filter opn, (if t.jts = 0 then V.non else V.int (t.lng : Nat)) = V.int (t.lng : Nat) ∧ (if t.jts = 0 then V.non else V.int (t.sht : Nat)) = V.int (t.sht : Nat) := fun t ht => by
        have h1 := (List.mem_filter.mp ht).2
        unfold opn at h1
        have h2 := of_decide_eq_true h1
        exact ⟨if_neg (by omega), if_neg (by omega)⟩
      refine ⟨D5, (l.filter opn).map fun t => (t.lng : Int), rfl, SqL.of (by rw [e5, List.map_map, List.map_congr_left fun t ht => (eL t ht).1]; rfl), by rw [List.length_map]; omega, fun m h1 h2 => ⟨_, _, rfl, rfl, ?_⟩⟩
      rw [lng_max e0 h1 h2]
      have hD5' := s5 _ _ hD4'
      refine ⟨_, rfl, _, rfl, _, rfl, _, rfl, .ref D4, rfl, D4, rfl, ⟨_, SqL.of hD5'⟩, fun D6 hD6 => lc_propL hD6 (SqL.of hD5') (hl4.same s5) hz4 (fun _ => rfl) (fun _ => rfl) fun H6 s6 e6 => ?_⟩
      refine ⟨D6, (l.filter opn).map fun t => (t.sht : Int), rfl, SqL.of (by rw [e6, List.map_map, List.map_congr_left fun t ht => (eL t ht).2]; rfl), by rw [List.length_map]; omega, fun m h1 h2 => ⟨_, _, rfl, rfl, ?_⟩⟩
      rw [sht_min e0 h1 h2]
      refine ⟨sz5, fun p hp => ?_⟩
      refine k _ p (Same.new (sAll.trans (s5.trans s6)) hp) ?_
      rw [upd_same, eS, eJ]
      show some (HO.tup [V.int (1 + (sizeL l : Nat)), V.int (jtsL l : Nat), V.int (1 + (depL l : Nat)), V.int (1 + (lngL l : Nat)), V.int (1 + (shtL l : Nat))]) = some (HO.tup [V.int ((1 + sizeL l : Nat) : Int), V.int (jtsL l : Nat), V.int ((1 + depL l : Nat) : Int), if jtsL l = 0 then V.non else V.int ((1 + lngL l : Nat) : Int), if jtsL l = 0 then V.non else V.int ((1 + shtL l : Nat) : Int)])
      rw [if_neg e0, if_neg e0, Int.natCast_add, Int.natCast_add, Int.natCast_add, Int.natCast_add]
      rfl
def sp_init (K : PySem.W.Frag) : Sp := fun vs H Q _ => ∃ x dx t b xs H0, vs = [.ref x, .str (tx t), .ref b] ∧ H0 x = none ∧ Same H0 H ∧ H x = some (.ins (cF K) dx []) ∧ H0 b = some (.tup xs) ∧ FtnL (cF K) H0 t.kids xs ∧ xs.length < sizeLine ∧
  ∀ H', Same H0 H' → Ftn (cF K) H' t (.ref x) → Q .non H'
theorem mk_jet {K : PySem.W.Frag} {H : Hp} {Q : VK} {E : XK} (q : ∀ v H', Same H H' → Ftn (cF K) H' .jet v → Q v H') : ([] : List V).length ≤ sizeLine ∧ ∀ p, H p = none → ∀ x dx, upd H p (.tup []) x = none → upd H p (.tup []) dx = none → dx ≠ x →
    sp_init K (V.ref x :: ([V.str "o", V.ref p] ++ [])) (upd (upd (upd H p (.tup [])) dx (.own x)) x (.ins (cF K) dx [])) (fun v H2 => v = .non ∧ Q (.ref x) H2) E := by
  refine ⟨Nat.zero_le _, fun p hp x dx hx hdx hne => ?_⟩
  have sQ : Same H (upd H p (.tup [])) := Same.new (Same.refl H) hp
  exact ⟨x, dx, .jet, p, [], upd H p (.tup []), by rw [tx_jet]; rfl, hx, Same.new (Same.new (Same.refl _) hdx) (by rw [upd_ne (Ne.symm hne)]; exact hx), upd_same, upd_same, rfl, by rw [sizeLine_eq]; decide, fun H5 s5 f5 => ⟨rfl, q _ _ (sQ.trans s5) f5⟩⟩
theorem ok_Fountain___init__  (T : Txt K mg base) : MakeD P w K mg base CX0 4 "Fountain" (cF K) ["self", "text", "branches"] [] (sp_init K) := by
  refine T.init.ok 1 (by decide) sc_Fountain___init__ (fun vs H Q E h => ?_) (fun f cdv A outer s H vs Q E hr h => ?_)
  · obtain ⟨x, dx, t, b, xs, H0, rfl, _⟩ := h
    rfl
  · obtain ⟨x, dx, t, b, xs, H0, rfl, hx0, s0, hx, hb, hk, hz, k⟩ := h
    refine ⟨_, (pss_cons (ps_set (i := 3) sc_Fountain___init__.nd rfl (by first | exact Or.inl rfl | exact Or.inr rfl) (pe_cmpR op_isN (pv 2) pe_non (nomark _)))
      (pss_cons (ps_if (pt_val (pv 3))
        pss_never
        pss_nil)
      (pss_cons (ps_fld (pv 0) (pv 1) (by rfl))
      (pss_cons (ps_fld (pv 0) (pv 2) (by rfl))
      (pss_cons (ps_fld (pv 0) (pe_via (pe_ifExp (pt_cmpR op_eq (pv 1) (pe_gstr rfl T.gJET_TEXT) (nomark _)) (pe_tup (pa_cons pe_int (pa_cons pe_int (pa_cons pe_int (pa_cons pe_int (pa_cons pe_int pa_nil)))))) (pe_callD (ok_basin_numbers T) (hr.mono (by decide)) (by rfl) pass0 (pa_cons (pv 2) pa_nil)))) (by rfl))
      (pss_one (ps_if (pt_val (pv 3))
        pss_never
        pss_nil))))))), ?_⟩
    have nx : ∀ {a : Addr} {o : HO}, H0 a = some o → a ≠ x := fun e => ne_of_none e hx0
    refine ⟨.ref b, rfl, rfl, _, rfl, _, rfl, ite_f (decide_eq_false (fun z => by cases z)) ⟨.str (tx t), rfl, .ref x, rfl, x, _, dx, _, rfl, hx, T.cls.c, T.cls.nw, by decide, .ref b, rfl, .ref x, rfl, x, _, dx, _, rfl, upd_same, T.cls.c, T.cls.nb, fl_l1,
      fun v H' => ∃ n, v = .ref n ∧ Same H0 H' ∧ H' x = some (.ins (cF K) dx (putF "branches" (.ref b) (putF "written" (.str (tx t)) []))) ∧ H' n = some (.tup (nums t)), ⟨_, rfl, rfl, _, rfl, ite2 (fun e => ?_) fun e => ?_⟩, fun v H' hv => ?_⟩⟩
    · have et : t = .jet := tx_inj ((V.str.inj (of_decide_eq_true e)).trans tx_jet.symm)
      subst et
      refine ⟨sz5, fun p hp => ⟨p, rfl, Same.new ?_ hp, ?_, ?_⟩⟩
      · exact fun a o e => by rw [upd_ne (nx e), upd_ne (nx e)]; exact s0 a o e
      · exact upd_old upd_same hp
      · rw [upd_same]
        rfl
    · cases t with
      | jet => exact absurd (decide_eq_true (by rw [tx_jet])) e
      | bas l =>
        have sH : ∀ o1 o2 : HO, Same H0 (upd (upd H x o1) x o2) := fun o1 o2 a o e => by rw [upd_ne (nx e), upd_ne (nx e)]; exact s0 a o e
        exact ⟨.ref b, rfl, b, xs, l, rfl, sH _ _ _ _ hb, FtnL.same hk (sH _ _), hz, fun H' p s e => ⟨p, rfl, (sH _ _).trans s, s _ _ upd_same, e⟩⟩
    · obtain ⟨n, rfl, s1, e1, e2⟩ := hv
      refine ⟨.ref x, rfl, x, _, dx, _, rfl, e1, T.cls.c, T.cls.nn, fl_l2, _, rfl, _, rfl, ite_f (decide_eq_false (fun z => by cases z)) (k _ ?_ ?_)⟩
      · exact fun a o e => by rw [upd_ne (nx e)]; exact s1 a o e
      · have sF : Same H0 (upd H' x (.ins (cF K) dx (putF "numbers" (.ref n) (putF "branches" (.ref b) (putF "written" (.str (tx t)) []))))) := fun a o e => by rw [upd_ne (nx e)]; exact s1 a o e
        have nn : n ≠ x := fun z => by
          subst z
          rw [e1] at e2
          cases e2
        exact ftn_iff.mpr ⟨x, dx, b, n, xs, rfl, by rw [upd_same, fl_put], sF _ _ hb, by rw [upd_ne nn]; exact e2, hk.same sF⟩
theorem ok_Fountain_text  (T : Txt K mg base) : PropD P w K mg base CX0 1 (cF K) "text" (spV K fun t => .str (tx t)) := by
  refine T.p_text.ok sc_Fountain_text (fun vs H Q E h => ?_) (fun f cdv A outer s H vs Q E hr h => ?_)
  · obtain ⟨v, t, rfl, _⟩ := h
    rfl
  · obtain ⟨v, t, rfl, hf, k⟩ := h
    obtain ⟨a, dx, b, n, vs, rfl, ha, hb, hn, hk⟩ := ftn_iff.mp hf
    refine ⟨_, (pss_one (ps_ret (pe_fld (pv 0) rfl))), ?_⟩
    exact ⟨.ref a, rfl, a, _, dx, _, _, rfl, ha, T.cls.c, T.cls.nw, fl_w, k⟩
def sp_made (K : PySem.W.Frag) : Sp := fun vs H Q _ => ∃ v xs l, vs = [.ref v] ∧ Sq K H v xs ∧ FtnL (cF K) H l xs ∧ sizeL l ≤ 1048576 ∧ LamX.Tabs (TT K) H ∧ ∀ w H', LamX.ExtN H H' → LamX.Tabs (TT K) H' → Ftn (cF K) H' (.bas (sortT l)) w → Q w H'
theorem ok_made  (T : Txt K mg base) : CallD P w K mg base CX0 6 "made" ["branches"] [] (sp_made K) := by
  refine T.d_made.okC sc_made (fun vs H Q E h => ?_) (fun A outer s H vs Q E hr h => ?_)
  · obtain ⟨v, xs, l, rfl, _⟩ := h
    rfl
  · obtain ⟨v, xs, l, rfl, hq, hl, hsz, hT, k⟩ := h
    have hlen := hl.len
    have hll := length_le l
    have hzl : xs.length < sizeLine := by rw [sizeLine_eq]; omega
    refine ⟨_, (pss_cons (ps_set (i := 1) sc_made.nd rfl (by first | exact Or.inl rfl | exact Or.inr rfl) (pe_sortedKey (N := ["branch"]) (k := 2) (pv 0) (by rfl) T.n_sorted T.tb_made rfl (List.mem_singleton.mpr rfl) (fun q hq _ => by rw [List.mem_singleton.mp hq]) (hr.mono (by decide)) ⟨rfl, rfl, rfl, by decide +kernel, rfl, by decide +kernel, by decide +kernel⟩ (fun _ _ _ _ _ => rfl) (fun A outer s H f cd hr => (pe_propD T.cls.c (ok_Fountain_text T) (hr.mono (by decide)) pass0 (pv 0) rfl))))
      (pss_one (ps_ret (pe_makeD (ok_Fountain___init__ T) (hr.mono (by decide)) (by rfl) pass0 (pa_cons (pe_op op_add_str (pe_op op_add_str pe_str (pe_join pe_str (pe_lc (own := [("branch", 2)]) (g := gName 2) (tt := tYes) (by rfl) sc_made.nd (pi_list (pv 1)) (blkOk_by (by kernel_rfl)) (fun _ _ _ _ _ => pg_name (i := 2) sc_made.nd rfl (by first | exact Or.inl rfl | exact Or.inr rfl)) (fun _ _ _ _ _ => pts_nil) (fun _ _ _ _ _ => (pe_propD T.cls.c (ok_Fountain_text T) (hr.mono (by decide)) pass0 (pv 2) rfl))))) pe_str) (pa_cons (pe_callTy call_tuple_of (by rfl) T.n_tuple (by decide +kernel) (pa_cons (pv 1) pa_nil)) pa_nil)))))), ?_⟩
    refine ⟨.ref v, rfl, v, xs, l.map tx, rfl, hq, by rw [List.length_map, hlen], hT, fun H2 hE hT2 => ⟨fun H' => LamX.ExtN H2 H' ∧ LamX.Tabs (TT K) H', ⟨LamX.ExtN.refl H2, hT2⟩, fun H' z => z.1, fun i x z hx hz H' hR => ?_, fun D H' ys hR hD ky => ?_⟩⟩
    · obtain ⟨t, e1, e2⟩ := hl.get hx
      rw [map_get e1 hz]
      exact ⟨x, rfl, ev_prop (e2.ext (hE.trans hR.1)) ⟨rfl, hR⟩⟩
    have hlS : sizeL (sortT l) = sizeL l := sizeL_perm (sortT_perm l)
    have hl3 : FtnL (cF K) (upd H' D (.lst ys)) (sortT l) ys := (ftnL_sort (hl.ext (hE.trans hR.1)) ky).same (Same.new (Same.refl H') hD)
    have sD : Same H' (upd H' D (.lst ys)) := Same.new (Same.refl H') hD
    have eD : upd H' D (.lst ys) D = some (.lst ys) := upd_same
    generalize upd H' D (.lst ys) = H3 at hl3 sD eD ⊢
    have hz : ys.length < sizeLine := by
      rw [hl3.len, (sortT_perm l).length_eq]
      omega
    have hcl := codesL_len (sortT l)
    have hjl : (Txt.join "" ((sortT l).map tx)).length = (codesL (sortT l)).length := by rw [join_tx, SX.S_len]
    have hop : (("(" : Str)).length = 1 := by decide +kernel
    have hcp : ((")" : Str)).length = 1 := by decide +kernel
    have hem : (("" : Str)).length = 0 := by decide +kernel
    have hsl := sizeLine_eq
    refine ⟨⟨_, rfl⟩, .ref D, rfl, D, rfl, ⟨ys, SqL.of eD⟩, fun D2 hD2 => lc_propL hD2 (SqL.of eD) hl3 hz (fun _ => rfl) (fun _ => rfl) fun H4 s4 e4 => ⟨_, D2, (sortT l).map tx, rfl, rfl, .inl (SqL.of (by rw [e4, List.map_map]; rfl)), ?_, _, _, rfl, rfl, ?_, _, _, rfl, rfl, ?_, .ref D, rfl, D, ys, rfl, .inl ⟨SqL.of (s4 _ _ eD), fun p hp x dx hx hdx hne => ?_⟩⟩⟩
    · rw [lens_tx, hem]
      omega
    · rw [hop, hjl]
      omega
    · show (("(" : Str) ++ Txt.join "" ((sortT l).map tx)).length + ((")" : Str)).length ≤ sizeLine
      rw [join_tx, op_S, SX.S_cat, SX.S_len, hcp, List.length_append, List.length_singleton]
      omega
    have sP : Same H' (upd H4 p (.tup ys)) := Same.new (sD.trans s4) hp
    refine ⟨x, dx, .bas (sortT l), p, ys, upd H4 p (.tup ys), by rw [← tx_bas]; rfl, hx, Same.new (Same.new (Same.refl _) hdx) (by rw [upd_ne (Ne.symm hne)]; exact hx), upd_same, upd_same, FtnL.same (hl3.same s4) (Same.new (Same.refl H4) hp), hz, fun H5 s5 f5 => ⟨rfl, k _ H5 ?_ ?_ f5⟩⟩
    · exact (hE.trans hR.1).trans (.of (sP.trans s5))
    · exact LamX.Tabs.ext hR.2 (sP.trans s5)
def sp_cut (K : PySem.W.Frag) (n : Nat) : Sp := fun vs H Q _ => ∃ v t b u, vs = [v, u] ∧ Ftn (cF K) H t v ∧ Ftn (cF K) H b u ∧ t.dep < n ∧ t.size ≤ 1048576 ∧ LamX.Tabs (TT K) H ∧ ∀ w H', LamX.ExtN H H' → LamX.Tabs (TT K) H' → Ftn (cF K) H' (cutT b t) w → Q w H'
theorem step_cut  (T : Txt K mg base) (n : Nat) (ih : CallD P w K mg base CX0 (6 + n) "cut" ["fountain", "part"] [] (sp_cut K n)) : CallD P w K mg base CX0 (6 + n + 1) "cut" ["fountain", "part"] [] (sp_cut K (n + 1)) := by
  refine T.d_cut.ok sc_cut (fun vs H Q E h => ?_) (fun f cdv A outer s H vs Q E hr h => ?_)
  · obtain ⟨v, t, b, u, rfl, _⟩ := h
    rfl
  · obtain ⟨v, t, b, u, rfl, hv, hu, hn, hsz, hT, k⟩ := h
    obtain ⟨av, dv, bv, nv, xv, rfl, hav, hbv, hnv, hkv⟩ := ftn_iff.mp hv
    obtain ⟨au, du, bu, nu, xu, rfl, hau, hbu, hnu, hku⟩ := ftn_iff.mp hu
    have hks := kids_size t
    have hsl := sizeLine_eq
    refine ⟨_, (pss_cons (ps_if (pt_cmpR (op_own_eq (ok_Fountain___eq__ T) (hr.mono (by omega)) pass0) (pv 0) (pv 1) (nomark _))
        (pss_one (ps_ret (pe_makeD (ok_Fountain___init__ T) (hr.mono (by omega)) (by rfl) pass0 (pa_cons (pe_gstr rfl T.gJET_TEXT) (pa_cons (pe_tup pa_nil) pa_nil)))))
        pss_nil)
      (pss_cons (ps_if (PW.pt (pw_or (pt_not (pt_val (pe_propD T.cls.c (ok_Fountain_is_open T) (hr.mono (by omega)) pass0 (pv 0) rfl))) (pw_or1 (pt_val (pe_propD T.cls.c (ok_Fountain_is_jet T) (hr.mono (by omega)) pass0 (pv 0) rfl)))))
        (pss_one (ps_ret (pv 0)))
        pss_nil)
      (pss_one (ps_ret (pe_callD (ok_made T) (hr.mono (by omega)) (by rfl) pass0 (pa_cons (pe_lc (own := [("branch", 2)]) (g := gName 2) (tt := tYes) (by rfl) sc_cut.nd (pi_tup (pe_propD T.cls.c (ok_Fountain_parts T) (hr.mono (by omega)) pass0 (pv 0) rfl)) (blkOk_by (by kernel_rfl)) (fun _ _ _ _ _ => pg_name (i := 2) sc_cut.nd rfl (by first | exact Or.inl rfl | exact Or.inr rfl)) (fun _ _ _ _ _ => pts_nil) (fun _ _ _ _ _ => (pe_callD ih (hr.mono (by omega)) (by rfl) pass0 (pa_cons (pv 2) (pa_cons (pv 1) pa_nil))))) pa_nil)))))), ?_⟩
    refine ⟨.ref av, rfl, .ref au, rfl, av, dv, _, au, du, _, rfl, rfl, hav, hau, ⟨_, t, _, b, rfl, hv, hu, _, rfl, _, rfl, ite2 (fun e => ?_) fun e => ?_⟩⟩
    · have e' : t = b := of_decide_eq_true e
      subst e'
      rw [cut_self] at k
      exact mk_jet fun v H' s f => k v H' (.of s) (Tabs.same hT s) f
    have hne : t ≠ b := fun z => e (decide_eq_true z)
    refine ⟨.ref av, rfl, ev_prop hv ⟨_, rfl, ite2 (fun e1 => ite_t rfl ⟨.ref av, rfl, ?_⟩) fun e1 => ⟨.ref av, rfl, ev_prop hv ⟨_, rfl, ite2 (fun e2 => ⟨.ref av, rfl, ?_⟩) fun e2 => ?_⟩⟩⟩⟩
    · refine k _ _ (LamX.ExtN.refl H) hT ?_
      rw [cut_closed hne (by simpa using e1)]
      exact hv
    · have e' : t = .jet := of_decide_eq_true e2
      subst e'
      exact k _ _ (LamX.ExtN.refl H) hT hv
    have hj : t.jts ≠ 0 := fun z => e1 (by rw [z]; rfl)
    cases t with
    | jet => exact absurd (decide_eq_true rfl) e2
    | bas l =>
      rw [cut_open hne hj] at k
      have hks2 : sizeL l ≤ (JW.T.bas l).size := hks
      refine ⟨.ref av, rfl, ev_kids hv fun b' xs' hb' hk' => ⟨b', rfl, ⟨xs', SqT.of hb'⟩, fun D hD => lc_ftnT (l := l) (g := cutT b) hD (SqT.of hb') hk' ?_ hT (fun _ => rfl) (fun x t' H' Q' ht' hx' hE' hT' q' => ?_) (fun H' ys hE hT2 hy hfy => ?_)⟩⟩
      · have h1 : xs'.length = l.length := hk'.len
        have h2 := length_le l
        omega
      · have h1 := dep_lt ht'
        have h2 := size_mem ht'
        exact ⟨x, rfl, .ref au, rfl, x, t', b, .ref au, rfl, hx', hu.ext hE', by omega, by omega, hT', q'⟩
      · have h1 := sizeL_map_le (l := l) fun t _ => cut_size b t
        exact ⟨D, ys, l.map (cutT b), rfl, .inl (SqL.of hy), hfy, by omega, hT2, fun w H'' e1 e2 e3 => k w H'' (hE.trans e1) e2 e3⟩
theorem ok_cut  (T : Txt K mg base) (n : Nat) : CallD P w K mg base CX0 (6 + n) "cut" ["fountain", "part"] [] (sp_cut K n) := callD_rec (sp := sp_cut K) T.d_cut (by
    rintro vs H Q E ⟨v, t, b, u, _, _, _, z, _⟩
    exact absurd z (Nat.not_lt_zero _)
    ) (step_cut T) n
def sp_fdiv (K : PySem.W.Frag) (n : Nat) : Sp := fun vs H Q _ => ∃ v t b u, vs = [v, u] ∧ Ftn (cF K) H t v ∧ Ftn (cF K) H b u ∧ 0 < b.jts ∧ cov b t = true ∧ t.dep < n ∧ t.dep < 121 ∧ t.size ≤ 1048576 ∧ LamX.Tabs (TT K) H ∧ ∀ w H', LamX.ExtN H H' → LamX.Tabs (TT K) H' → Ftn (cF K) H' (cutT b t) w → Q w H'
theorem ok_Fountain___floordiv__ (n : Nat) (T : Txt K mg base) : MethD P w K mg base CX0 (n + 9 + 1) (cF K) "__floordiv__" ["self", "other"] [] (sp_fdiv K n) := by
  refine T.m___floordiv__.ok sc_Fountain___floordiv__ (fun vs H Q E h => ?_) (fun f cdv A outer s H vs Q E hr h => ?_)
  · obtain ⟨v, t, b, u, rfl, _⟩ := h
    rfl
  · obtain ⟨v, t, b, u, rfl, hv, hu, hj, hc, hdn, hd, hsz, hT, k⟩ := h
    obtain ⟨av, dv, bv, nv, xv, rfl, hav, hbv, hnv, hkv⟩ := ftn_iff.mp hv
    obtain ⟨au, du, bu, nu, xu, rfl, hau, hbu, hnu, hku⟩ := ftn_iff.mp hu
    refine ⟨_, (pss_cons (ps_if (pt_not (pt_val (pe_callB call_isi (by rfl) T.n_isinstance (by decide +kernel) (pa_cons (pv 1) (pa_cons (pe_glob (v := .ref (cF K)) rfl T.cls.g rfl) pa_nil)))))
        pss_never
        pss_nil)
      (pss_cons (ps_if (pt_not (pt_val (pe_propD T.cls.c (ok_Fountain_is_open T) (hr.mono (by omega)) pass0 (pv 1) rfl)))
        pss_never
        pss_nil)
      (pss_cons (ps_set (i := 2) sc_Fountain___floordiv__.nd rfl (by first | exact Or.inl rfl | exact Or.inr rfl) (pe_callD (ok_bare_place T n) (hr.mono (by omega)) (by rfl) pass0 (pa_cons (pv 0) (pa_cons (pv 1) (pa_cons (pe_tup pa_nil) pa_nil)))))
      (pss_cons (ps_if (pt_cmpR op_notN (pv 2) pe_non (nomark _))
        pss_never
        pss_nil)
      (pss_one (ps_ret (pe_callD (ok_cut T n) (hr.mono (by omega)) (by rfl) pass0 (pa_cons (pv 0) (pa_cons (pv 1) pa_nil))))))))), ?_⟩
    refine ⟨.ref au, rfl, .ref au, .ref (cF K), _, _, true, rfl, .own _, T.cls.ty hau, isi_self, _, rfl, ite_f rfl ⟨.ref au, rfl, ev_prop hu ⟨_, rfl, ite_f (by rw [decide_eq_true hj]; rfl) ⟨.ref av, rfl, .ref au, rfl, Nat.zero_le _, fun q hq => ⟨.ref av, t, b, .ref au, q, [], rfl, hv.same (Same.new (Same.refl H) hq), hu.same (Same.new (Same.refl H) hq), upd_same, by show 0 + t.dep ≤ _; omega, hdn, hc, fun H1 s1 => ?_⟩⟩⟩⟩⟩
    have sH : Same H H1 := (Same.new (Same.refl H) hq).trans s1
    exact ⟨.non, rfl, rfl, _, rfl, ite_f rfl ⟨.ref av, rfl, .ref au, rfl, .ref av, t, b, .ref au, rfl, hv.same sH, hu.same sH, hdn, hsz, Tabs.same hT sH, fun w H' e1 e2 e3 => k w H' ((LamX.ExtN.of sH).trans e1) e2 e3⟩⟩
def WE (K : PySem.W.Frag) (H : Hp) (t : T) (y : V) : Prop := ∃ q b1 b2 ws es, y = .ref q ∧ SqT K H q [.ref b1, .ref b2] ∧ SqT K H b1 ws ∧ FtnL (cF K) H t.word ws ∧ SqT K H b2 es ∧ FtnL (cF K) H (endsW t.word) es
theorem WE.ext {K : PySem.W.Frag} {H H' : Hp} {t : T} {y : V} (h : WE K H t y) (e : LamX.ExtN H H') : WE K H' t y := by
  obtain ⟨q, b1, b2, ws, es, h1, h2, h3, h4, h5, h6⟩ := h
  exact ⟨q, b1, b2, ws, es, h1, seqTN h2 e, seqTN h3 e, h4.ext e, seqTN h5 e, h6.ext e⟩
theorem sqT_put {K : PySem.W.Frag} {H : Hp} {D a : Addr} {xs ys zs : List V} (hD : H D = some (.lst ys)) (h : SqT K H a xs) : SqT K (upd H D (.lst zs)) a xs := by
  have ne : ∀ o, H a = some o → o ≠ .lst ys → a ≠ D := fun o e n z => by
    rw [z, hD] at e
    exact n (Option.some.inj e).symm
  rcases h with (h | ⟨o, h⟩) | h
  · exact .inl (.inl (by rw [upd_ne (ne _ h (by intro z; cases z))]; exact h))
  · exact .inl (.inr ⟨o, by rw [upd_ne (ne _ h (by intro z; cases z))]; exact h⟩)
  · exact .inr h
theorem WE.put {K : PySem.W.Frag} {H : Hp} {D : Addr} {ys zs : List V} {t : T} {y : V} (hD : H D = some (.lst ys)) (h : WE K H t y) : WE K (upd H D (.lst zs)) t y := by
  obtain ⟨q, b1, b2, ws, es, h1, h2, h3, h4, h5, h6⟩ := h
  exact ⟨q, b1, b2, ws, es, h1, sqT_put hD h2, sqT_put hD h3, ftnL_extD hD (ExtD.put (ExtD.refl D H)) _ _ h4, sqT_put hD h5, ftnL_extD hD (ExtD.put (ExtD.refl D H)) _ _ h6⟩
def WEL (K : PySem.W.Frag) (H : Hp) (l : List T) (ys : List V) : Prop := ys.length = l.length ∧ ∀ (i : Nat) (y : V), ys[i]? = some y → ∃ t, l[i]? = some t ∧ WE K H t y
theorem lc_weL {K : PySem.W.Frag} {TT : List (Addr × Str)} {a : Addr} {xs : List V} {l : List T} {j : Nat} {te : TE} {σ : L2.St} {H1 : Hp} {D : Addr} {Qd : Hp → Prop} (hD : H1 D = none) (hl : SqL K H1 a xs) (hf : FtnL (cF K) H1 l xs) (hz : xs.length < sizeLine) (hT : LamX.Tabs TT H1)
    (hw : ∀ x : V, wipe ((wipe σ [j]).set j (some x)) [j] = wipe σ [j]) (hs : ∀ (x : V) (t : T) (H : Hp) (Q : VK), t ∈ l → Ftn (cF K) H t x → LamX.ExtN H1 H → LamX.Tabs TT H → (∀ y H', LamX.ExtN H H' → LamX.Tabs TT H' → WE K H' t y → Q y H') → te ((wipe σ [j]).set j (some x)) H Q)
    (hd : ∀ H ys, LamX.ExtN H1 H → LamX.Tabs TT H → H D = some (.lst ys) → WEL K H l ys → Qd H) : ∃ W : Nat → Nat → Hp → Prop, (∃ m, W 0 m (upd H1 D (.lst []))) ∧ ∀ i m H, W i m H →
      ((Itl K a).stop i H ∧ Qd H) ∨ ((Itl K a).go i H ∧ ∃ Nx : Hp → Prop, (∀ H', Nx H' → ∃ m', m' < m ∧ W (i + 1) m' H') ∧ ∀ x H', (Itl K a).yld i H x H' → gName j x (wipe σ [j]) H' fun σ2 H2 => wipe σ2 [j] = wipe σ [j] ∧ tYes σ2 H2 fun b H3 =>
        if b = true then te σ2 H3 fun y H4 => ∃ acc, H4 D = some (.lst acc) ∧ acc.length < sizeLine ∧ Nx (upd H4 D (.lst (acc ++ [y]))) else Nx H3) := by
  have hlen := hf.len
  refine lc_list (fun i H => LamX.ExtN H1 H ∧ LamX.Tabs TT H ∧ ∃ ys, H D = some (.lst ys) ∧ WEL K H (l.take i) ys) ⟨.of (Same.new (Same.refl H1) hD), Tabs.same hT (Same.new (Same.refl H1) hD), [], upd_same, by rw [List.take_zero]; exact ⟨rfl, fun i y h => by cases h⟩⟩ (fun i H _ p => seqN hl p.1) (fun i x H hx p => ?_) fun H p => ?_
  · obtain ⟨hE, hT2, ys, hy, hfl, hfy⟩ := p
    obtain ⟨t, e1, e2⟩ := hf.get hx
    have hi : i < l.length := (List.getElem?_eq_some_iff.mp e1).1
    have hyl : ys.length = i := by rw [hfl, List.length_take]; omega
    refine ⟨hw x, ?_⟩
    show te _ H _
    refine hs x t H _ (List.mem_of_getElem? e1) (e2.ext hE) hE hT2 fun y H' hE' hT' hy' => ⟨ys, hE' _ _ hy (fun ps z => by cases z), by omega, ?_, ?_, ys ++ [y], upd_same, ?_, fun k z hz => ?_⟩
    · exact fun c o ec n => by rw [upd_ne (ne_of_none ec hD)]; exact hE' _ _ (hE _ _ ec n) n
    · exact Tabs.put hT' (hE' _ _ hy (fun ps z => by cases z))
    · rw [List.length_append, List.length_singleton, List.length_take]
      omega
    · have hDy := hE' _ _ hy (fun ps z => by cases z)
      by_cases hk : k < ys.length
      · rw [List.getElem?_append_left hk] at hz
        obtain ⟨u, f1, f2⟩ := hfy k z hz
        refine ⟨u, ?_, (f2.ext hE').put hDy⟩
        rw [List.getElem?_take] at f1 ⊢
        rw [if_pos (by omega)] at f1
        rw [if_pos (by omega)]
        exact f1
      · have hk2 : k < (ys ++ [y]).length := (List.getElem?_eq_some_iff.mp hz).1
        rw [List.length_append, List.length_singleton] at hk2
        have hk3 : k = ys.length := by omega
        subst hk3
        rw [List.getElem?_append_right (Nat.le_refl _), Nat.sub_self] at hz
        have hz2 : y = z := Option.some.inj hz
        subst hz2
        refine ⟨t, ?_, hy'.put hDy⟩
        rw [List.getElem?_take, if_pos (by omega), hyl]
        exact e1
  · obtain ⟨hE, hT2, ys, hy, hfy⟩ := p
    rw [hlen, List.take_length] at hfy
    exact hd H ys hE hT2 hy hfy
theorem word_len0 : ∀ t : T, t.word.length ≤ t.size := by
  refine T.ind' (Nat.zero_le _) fun l ih => ?_
  show (lcsL (wordsL l)).length + 1 ≤ 1 + sizeL l
  cases hw : wordsL l with
  | nil =>
    show 0 + 1 ≤ _
    omega
  | cons w r =>
    have hm : w ∈ wordsL l := by rw [hw]; exact List.mem_cons_self
    obtain ⟨t, ht, _, e⟩ := mem_words.mp hm
    have h1 := (lcs_suf hm).length_le
    have h2 := ih t ht
    have h3 : t.size < 1 + sizeL l := size_mem ht
    rw [← hw]
    rw [e] at h2
    omega
theorem ftnL_take {C : Addr} {H : Hp} : ∀ (n : Nat) {l : List T} {vs : List V}, FtnL C H l vs → FtnL C H (l.take n) (vs.take n)
  | 0, _, _, _ => rfl
  | n + 1, [], vs, h => by
    have e : vs = [] := h
    subst e
    exact rfl
  | n + 1, t :: r, vs, h => by
    obtain ⟨v, q, rfl, h1, h2⟩ := (show ∃ v r', vs = v :: r' ∧ Ftn C H t v ∧ FtnL C H r r' from h)
    exact ⟨v, q.take n, rfl, h1, ftnL_take n h2⟩
theorem cut_ends {xs : List V} (m : Nat) : cutV xs none (some ((m : Int) + 1)) = xs.take (m + 1) := by
  unfold cutV
  have h3 : HT.sIx xs.length xs.length (some ((m : Int) + 1)) = min (m + 1) xs.length := by
    show (if (m : Int) + 1 < 0 then ((m : Int) + 1 + (xs.length : Int)).toNat else min ((m : Int) + 1).toNat xs.length) = _
    rw [if_neg (by omega), show ((m : Int) + 1).toNat = m + 1 by omega]
  have h4 : HT.sIx xs.length 0 none = 0 := rfl
  rw [h3, h4, List.drop_zero, Nat.sub_zero]
  exact List.take_eq_take_min.symm
def sp_wae (K : PySem.W.Frag) (n : Nat) : Sp := fun vs H Q _ => ∃ v t, vs = [v] ∧ Ftn (cF K) H t v ∧ Op t ∧ t.dep < n ∧ t.dep < 121 ∧ t.size ≤ 1048576 ∧ LamX.Tabs (TT K) H ∧ ∀ y H', LamX.ExtN H H' → LamX.Tabs (TT K) H' → WE K H' t y → Q y H'
theorem step_word_and_ends  (T : Txt K mg base) (n : Nat) (ih : CallD P w K mg base CX0 (12 + n) "word_and_ends" ["fountain"] [] (sp_wae K n)) : CallD P w K mg base CX0 (12 + n + 1) "word_and_ends" ["fountain"] [] (sp_wae K (n + 1)) := by
  refine T.d_word_and_ends.ok sc_word_and_ends (fun vs H Q E h => ?_) (fun f cdv A outer s H vs Q E hr h => ?_)
  · obtain ⟨v, t, rfl, _⟩ := h
    rfl
  · obtain ⟨v, t, rfl, hv, ho, hn, hd, hz, hT, k⟩ := h
    have hsl := sizeLine_eq
    refine ⟨_, (pss_cons (ps_if (pt_val (pe_propD T.cls.c (ok_Fountain_is_jet T) (hr.mono (by omega)) pass0 (pv 0) rfl))
        (pss_one (ps_ret (pe_tup (pa_cons (pe_tup pa_nil) (pa_cons (pe_tup (pa_cons (pv 0) pa_nil)) pa_nil)))))
        pss_nil)
      (pss_cons (ps_setLc (i := 1) (own := [("branch", 4)]) (g := gName 4) (tt := tYes) (by rfl) sc_word_and_ends.nd rfl rfl (sw_true rfl rfl rfl (by decide +kernel)) (pi_list (pe_callD (ok_open_branches T) (hr.mono (by omega)) (by rfl) pass0 (pa_cons (pv 0) pa_nil))) (blkOk_by (by kernel_rfl)) (fun _ _ _ _ _ => pg_name (i := 4) sc_word_and_ends.nd rfl (by first | exact Or.inl rfl | exact Or.inr rfl)) (fun _ _ _ _ _ => pts_nil) (fun _ _ _ _ _ => (pe_callD ih (hr.mono (by omega)) (by rfl) pass0 (pa_cons (pv 4) pa_nil))))
      (pss_cons (ps_set (i := 3) sc_word_and_ends.nd rfl (by first | exact Or.inl rfl | exact Or.inr rfl) (pe_callD (ok_shared_tail T) (hr.mono (by omega)) (by rfl) pass0 (pa_cons (pe_lc (own := [("word", 5), ("ends", 2)]) (g := gTup K 2 (gCons (gName 5) (gCons (gName 2) gNil))) (tt := tYes) (by rfl) sc_word_and_ends.nd (pi_list (pv 1)) (blkOk_by (by kernel_rfl)) (fun _ _ _ _ _ => pg_tupK (K := K) rfl rfl (pgs_cons (pg_name (i := 5) sc_word_and_ends.nd rfl (by first | exact Or.inl rfl | exact Or.inr rfl)) (pgs_cons (pg_name (i := 2) sc_word_and_ends.nd rfl (by first | exact Or.inl rfl | exact Or.inr rfl)) pgs_nil))) (fun _ _ _ _ _ => pts_nil) (fun _ _ _ _ _ => (pv 5))) pa_nil)))
      (pss_cons (ps_set (i := 2) sc_word_and_ends.nd rfl (by first | exact Or.inl rfl | exact Or.inr rfl) (pe_via (pe_slice sl_tupA (pe_ix ix_tup (pe_ix ix_list (pv 1) pe_int (fun _ _ => rfl)) pe_int (fun _ _ => rfl)) po_none (po_some (pe_op op_add (pe_callB call_len (by rfl) T.n_len (by decide +kernel) (pa_cons (pv 3) pa_nil)) pe_int)))))
      (pss_one (ps_ret (pe_tup (pa_cons (pe_via (pe_op op_catA (pe_tup (pa_cons (pe_op (op_own (op := .FloorDiv) T.cls.sf (ok_Fountain___floordiv__ (n + 1) T) (hr.mono (by omega)) pass0) (pv 0) (pe_ix ix_tup (pv 2) (pe_un un_neg pe_int) (fun _ _ => rfl))) pa_nil)) (pv 3))) (pa_cons (pe_op op_catA (pv 2) (pe_tup (pa_cons (pv 0) pa_nil))) pa_nil))))))))), ?_⟩
    cases t with
    | jet =>
      refine ⟨v, rfl, ev_prop hv ⟨_, rfl, ite_t (decide_eq_true rfl) ⟨Nat.zero_le _, fun b1 hb1 => ⟨v, rfl, sz1, fun b2 hb2 => ⟨sz2, fun q hq => ?_⟩⟩⟩⟩⟩
      have s1 : Same H (upd (upd (upd H b1 (.tup [])) b2 (.tup [v])) q (.tup [.ref b1, .ref b2])) := Same.new (Same.new (Same.new (Same.refl H) hb1) hb2) hq
      exact k _ _ (.of s1) (Tabs.same hT s1) ⟨q, b1, b2, [], [v], rfl, SqT.of upd_same, SqT.of (upd_old (upd_old upd_same hb2) hq), rfl, SqT.of (upd_old upd_same hq), ⟨_, _, rfl, hv.same s1, rfl⟩⟩
    | bas l =>
      have hwp := word_part ho
      have hcl := canL_iff.mp ho.1.2
      refine ⟨v, rfl, ev_prop hv ⟨_, rfl, ite_f (decide_eq_false fun z => by cases z) ?_⟩⟩
      have hzl : 1 + sizeL l ≤ 1048576 := hz
      refine ⟨v, rfl, v, l, rfl, hv, by omega, fun D ys H1 hD s1 h1 hf1 => ⟨D, rfl, ⟨ys, SqL.of h1⟩, fun D2 hD2 => lc_weL hD2 (SqL.of h1) hf1 ?_ (Tabs.same hT s1) (fun _ => rfl) (fun x t H' Q' ht hx e' T' q => ?_) fun H2 ws e2 T2 h2 hW2 => ?_⟩⟩
      · have h3 := opN_len l l.length
        have h4 := length_le l
        have h5 : ys.length = (opN l l.length).length := hf1.len
        omega
      · obtain ⟨hm, hj⟩ := opB_mem.mp ht
        have h3 := dep_lt hm
        have h4 := size_mem hm
        exact ⟨x, rfl, x, t, rfl, hx, ⟨hcl t hm, hj⟩, by omega, by omega, by omega, T', q⟩
      have hob : (opB l).length ≤ l.length := opN_len l l.length
      have hll := length_le l
      refine ⟨.ref D2, rfl, D2, rfl, ⟨ws, SqL.of h2⟩, fun D3 hD3 => lc_list (fun i H' => Same H2 H' ∧ ∃ zs, H' D3 = some (.lst zs) ∧ Wds K H2 (((opB l).take i).map JW.T.word) zs) ⟨Same.new (Same.refl H2) hD3, [], upd_same, by rw [List.take_zero]; exact ⟨rfl, fun i y h => by cases h⟩⟩ (fun i H' _ p => SqL.of (p.1 _ _ h2)) (fun i x H' hx p => ?_) fun H3 p => ?_⟩
      · obtain ⟨s', zs, hy, hl', hf'⟩ := p
        obtain ⟨t, e1, q, b1, b2, xs1, xs2, rfl, g1, g2, g3, g4, g5⟩ := hW2.2 i x hx
        have hi : i < (opB l).length := (List.getElem?_eq_some_iff.mp e1).1
        have hzs : zs.length = i := by rw [hl', List.length_map, List.length_take]; omega
        refine ⟨q, _, rfl, seqTN g1 (.of s'), rfl, _, _, rfl, _, _, rfl, rfl, rfl, ?_⟩
        refine ⟨.ref b1, rfl, zs, hy, by omega, fun c o ec => by rw [upd_ne (ne_of_none ec hD3)]; exact s' _ _ ec, zs ++ [.ref b1], upd_same, ?_, fun k z hz => ?_⟩
        · rw [List.length_append, List.length_singleton, List.length_map, List.length_take]
          omega
        · by_cases hk : k < zs.length
          · rw [List.getElem?_append_left hk] at hz
            obtain ⟨w, b, xs, f1, f2⟩ := hf' k z hz
            refine ⟨w, b, xs, ?_, f2⟩
            rw [List.getElem?_map, List.getElem?_take] at f1 ⊢
            rw [if_pos (by omega)] at f1
            rw [if_pos (by omega)]
            exact f1
          · have hk2 : k < (zs ++ [V.ref b1]).length := (List.getElem?_eq_some_iff.mp hz).1
            rw [List.length_append, List.length_singleton] at hk2
            have hk3 : k = zs.length := by omega
            subst hk3
            rw [List.getElem?_append_right (Nat.le_refl _), Nat.sub_self] at hz
            have hz2 : V.ref b1 = z := Option.some.inj hz
            subst hz2
            refine ⟨t.word, b1, xs1, ?_, rfl, g2, g3⟩
            rw [List.getElem?_map, List.getElem?_take, if_pos (by omega), hzs, e1]
            rfl
      obtain ⟨s3, zs, h3, hW3⟩ := p
      rw [hW2.1, List.take_length] at hW3
      have hx5 : lcsL ((opB l).map JW.T.word) = lcsL (wordsL l) := opB_words ho.2
      have T3 := Tabs.same T2 s3
      refine ⟨D3, zs, (opB l).map JW.T.word, rfl, SqL.of h3, hW3.same s3, fun z => opB_ne ho.2 (List.map_eq_nil_iff.mp z), by rw [List.length_map]; omega, fun w hw => ?_, fun q5 ts H4 s4 g5 f5 => ?_⟩
      · obtain ⟨t, ht, rfl⟩ := List.mem_map.mp hw
        have h6 := word_len0 t
        have h7 := size_mem (opB_mem.mp ht).1
        omega
      rw [hx5] at f5
      have T4 := Tabs.same T3 s4
      have h4 : H4 D2 = some (.lst ws) := s4 _ _ (s3 _ _ h2)
      obtain ⟨t0, ht0⟩ : ∃ t0, (opB l)[0]? = some t0 := by
        cases hb : opB l with
        | nil => exact absurd hb (opB_ne ho.2)
        | cons t r => exact ⟨t, rfl⟩
      have hw0 : ws[0]? = some (ws[0]'(by have := List.length_pos_iff.mpr (opB_ne ho.2); have := hW2.1; omega)) := List.getElem?_eq_getElem _
      obtain ⟨t0', e0, q0, b1, b2, xs1, xs2, ew0, g1, g2, g3, g4, g6⟩ := hW2.2 0 _ hw0
      rw [ht0] at e0
      obtain rfl := Option.some.inj e0
      rw [ew0] at hw0
      have s24 : Same H2 H4 := s3.trans s4
      have hsuf : lcsL (wordsL l) <:+ t0.word := lcs_suf (mem_words.mpr ⟨t0, (opB_mem.mp (List.mem_of_getElem? ht0)).1, (opB_mem.mp (List.mem_of_getElem? ht0)).2, rfl⟩)
      have hts : ts.length = (lcsL (wordsL l)).length := f5.len
      have hx6 := g6.len
      have f6 := ftnL_take ((lcsL (wordsL l)).length + 1) (g6.same s24)
      rw [endsW_take hsuf] at f6
      refine ⟨fun v' H5 => ∃ be xe, v' = .ref be ∧ Same H4 H5 ∧ SqT K H5 be xe ∧ FtnL (cF K) H5 (endsW (lcsL (wordsL l))) xe, ?_, ?_⟩
      · refine ⟨.ref D2, rfl, D2, ws, 0, .ref q0, rfl, rfl, SqL.of h4, atI_nat (j := 0) hw0, q0, [.ref b1, .ref b2], 1, .ref b2, rfl, rfl, seqTN g1 (.of s24), atI_nat (j := 1) rfl, .ref q5, rfl, .ref q5, ts.length, rfl, .inr ⟨ts, g5, rfl⟩, _, _, rfl, rfl, _, rfl, b2, xs2, rfl, seqTN g4 (.of s24), fun hwh => ⟨b2, xs2, rfl, Same.refl _, seqTN g4 (.of s24), ?_⟩, fun hnw p hp => ⟨p, _, rfl, Same.new (Same.refl H4) hp, SqT.of upd_same, ?_⟩⟩
        · have h8 : min (((ts.length : Nat) : Int) + 1).toNat xs2.length = xs2.length := by
            have h9 : HT.sIx xs2.length xs2.length (some (((ts.length : Nat) : Int) + 1)) = min (((ts.length : Nat) : Int) + 1).toNat xs2.length := by
              show (if ((ts.length : Nat) : Int) + 1 < 0 then (((ts.length : Nat) : Int) + 1 + (xs2.length : Int)).toNat else min (((ts.length : Nat) : Int) + 1).toNat xs2.length) = _
              rw [if_neg (by omega)]
            rw [← h9]
            exact hwh.2
          rw [List.take_of_length_le (by omega)] at f6
          exact f6
        · have h8 := cut_ends (xs := xs2) ts.length
          rw [hts] at h8
          show FtnL (cF K) _ _ (cutV xs2 none (some (((ts.length : Nat) : Int) + 1)))
          rw [hts, h8]
          exact f6.same (Same.new (Same.refl H4) hp)
      rintro v' H5 ⟨be, xe, rfl, s5, g7, f7⟩
      have s45 : Same H2 H5 := s24.trans s5
      have x5 : LamX.ExtN H H5 := ((LamX.ExtN.of s1).trans e2).trans (.of s45)
      have T5 := Tabs.same T4 s5
      have hv5 := hv.ext x5
      have hE : Op (prodT (lcsL (wordsL l))) := ⟨prod_can fun q hq => (hwp.1 q hq).1, prod_open fun q hq => (hwp.1 q hq).2⟩
      have hxl := f7.len
      have hel := endsW_len (lcsL (wordsL l))
      have hxe : xe[xe.length - 1]? = some (xe[xe.length - 1]'(by omega)) := List.getElem?_eq_getElem (by omega)
      obtain ⟨tE, htE, fE⟩ := f7.get hxe
      rw [hxl, endsW_last] at htE
      obtain rfl := Option.some.inj htE
      have hat : atI xe (-1) = some (xe[xe.length - 1]'(by omega)) := (atI_neg (c := 0) (by omega)).trans hxe
      have hcov : cov (prodT (lcsL (wordsL l))) (.bas l) = true := by
        rw [← hwp.2.2.1]
        exact cov_grf _ _
      have g5' := seqTN g5 (.of s5)
      have f5' := f5.same s5
      have hww : (JW.T.bas l).word = cutT (prodT (lcsL (wordsL l))) (.bas l) :: lcsL (wordsL l) := rfl
      refine ⟨fun v' H7 => ∃ bw xw, v' = .ref bw ∧ LamX.ExtN H5 H7 ∧ LamX.Tabs (TT K) H7 ∧ SqT K H7 bw xw ∧ FtnL (cF K) H7 (JW.T.bas l).word xw, ?_, ?_⟩
      · refine ⟨v, rfl, .ref be, rfl, _, rfl, be, xe, -1, _, rfl, rfl, g7, hat, own_of (sp := sp_fdiv K (n + 1)) (E := E0) hv5 fE ⟨v, .bas l, _, _, rfl, hv5, fE, Nat.pos_of_ne_zero hE.2, hcov, by omega, by omega, by omega, T5, fun wq H6 e6 T6 fq => ⟨fq.ne, sz1, fun p6 hp6 => ?_⟩⟩⟩
        have s6 : Same H6 (upd H6 p6 (.tup [wq])) := Same.new (Same.refl H6) hp6
        have h6 : upd H6 p6 (.tup [wq]) p6 = some (.tup [wq]) := upd_same
        have T6' := Tabs.same T6 s6
        have e6' : LamX.ExtN H5 (upd H6 p6 (.tup [wq])) := e6.trans (.of s6)
        have fq6 := fq.same s6
        generalize upd H6 p6 (.tup [wq]) = H7 at s6 h6 T6' e6' fq6 ⊢
        refine ⟨_, rfl, p6, q5, [wq], ts, rfl, rfl, SqT.of h6, seqTN g5' e6', ?_, fun z => absurd z (by simp), fun _ z => ?_, fun _ _ p7 hp7 => ?_⟩
        · show 1 + ts.length ≤ sizeLine
          have := word_len0 (.bas l)
          rw [hww, List.length_cons] at this
          omega
        · refine ⟨p6, [wq], rfl, e6', T6', SqT.of h6, ?_⟩
          rw [hww]
          have z2 : lcsL (wordsL l) = [] := List.eq_nil_of_length_eq_zero (by rw [← hts, z]; rfl)
          rw [z2] at fq6 ⊢
          exact FtnL.one fq6
        · have s7 : Same H7 (upd H7 p7 (.tup ([wq] ++ ts))) := Same.new (Same.refl H7) hp7
          refine ⟨p7, _, rfl, e6'.trans (.of s7), Tabs.same T6' s7, SqT.of upd_same, ?_⟩
          rw [hww]
          exact ⟨_, _, rfl, fq6.same s7, (f5'.ext e6').same s7⟩
      rintro v' H7 ⟨bw, xw, rfl, e7, T7, g8, f8⟩
      refine ⟨.ref be, rfl, v, rfl, sz1, fun p8 hp8 => ?_⟩
      have s8 : Same H7 (upd H7 p8 (.tup [v])) := Same.new (Same.refl H7) hp8
      have h8 : upd H7 p8 (.tup [v]) p8 = some (.tup [v]) := upd_same
      have T8 := Tabs.same T7 s8
      generalize upd H7 p8 (.tup [v]) = H8 at s8 h8 T8 ⊢
      have e8 : LamX.ExtN H5 H8 := e7.trans (.of s8)
      refine ⟨be, p8, xe, [v], rfl, rfl, seqTN g7 e8, SqT.of h8, ?_, fun z => ?_, fun _ z => absurd z (by simp), fun _ _ p9 hp9 => ⟨sz2, fun pq hpq => ?_⟩⟩
      · show xe.length + 1 ≤ sizeLine
        have := word_len0 (.bas l)
        rw [hww, List.length_cons] at this
        omega
      · rw [z] at hxl
        rw [hel] at hxl
        cases hxl
      · have s9 : Same H8 (upd (upd H8 p9 (.tup (xe ++ [v]))) pq (.tup [.ref bw, .ref p9])) := Same.new (Same.new (Same.refl H8) hp9) hpq
        refine k _ _ ((x5.trans e8).trans (.of s9)) (Tabs.same T8 s9) ⟨pq, bw, p9, xw, xe ++ [v], rfl, SqT.of upd_same, seqTN g8 ((LamX.ExtN.of s8).trans (.of s9)), (f8.same s8).same s9, SqT.of (upd_old upd_same hpq), ?_⟩
        rw [hww, endsW_cons, ← hww, (word_prod _ ho).1]
        exact ((f7.ext e8).same s9).app (FtnL.one (hv5.ext (e8.trans (.of s9))))
theorem ok_word_and_ends  (T : Txt K mg base) (n : Nat) : CallD P w K mg base CX0 (12 + n) "word_and_ends" ["fountain"] [] (sp_wae K n) := callD_rec (sp := sp_wae K) T.d_word_and_ends (by
    rintro vs H Q E ⟨v, t, _, _, _, z, _⟩
    exact absurd z (Nat.not_lt_zero _)
    ) (step_word_and_ends T) n
def sp_word_of (K : PySem.W.Frag) : Sp := fun vs H Q _ => ∃ v t, vs = [v] ∧ Ftn (cF K) H t v ∧ Op t ∧ t.dep < 121 ∧ t.size ≤ 1048576 ∧ LamX.Tabs (TT K) H ∧ ∀ q ws H', LamX.ExtN H H' → LamX.Tabs (TT K) H' → SqT K H' q ws → FtnL (cF K) H' t.word ws → Q (.ref q) H'
theorem ok_word_of  (T : Txt K mg base) : CallD P w K mg base CX0 134 "word_of" ["fountain"] [] (sp_word_of K) := by
  refine T.d_word_of.ok sc_word_of (fun vs H Q E h => ?_) (fun f cdv A outer s H vs Q E hr h => ?_)
  · obtain ⟨v, t, rfl, _⟩ := h
    rfl
  · obtain ⟨v, t, rfl, hv, ho, hd, hz, hT, k⟩ := h
    refine ⟨_, (pss_one (ps_ret (pe_ix ix_tup (pe_callD (ok_word_and_ends T 121) (hr.mono (by decide)) (by rfl) pass0 (pa_cons (pv 0) pa_nil)) pe_int (fun _ _ => rfl)))), ?_⟩
    refine ⟨v, rfl, v, t, rfl, hv, ho, hd, by omega, hz, hT, fun y H' e' T' hy => ?_⟩
    obtain ⟨q, b1, b2, ws, es, rfl, g1, g2, g3, g4, g5⟩ := hy
    exact ⟨q, [.ref b1, .ref b2], 0, .ref b1, rfl, rfl, g1, atI_nat (j := 0) rfl, k b1 ws H' e' T' g2 g3⟩
def asp_word_of : ASp
  | [.tree t], L, Q, _ => Op t ∧ t.dep < 121 ∧ t.size ≤ 1048576 ∧ Q (.tup (t.word.map .tree)) L
  | _, _, _, _ => False
theorem okA_word_of (T : Txt K mg base) {scr : Option (Addr × List Int)} : CallD P w K mg base CX0 134 "word_of" ["fountain"] [] (spA (cA K scr) asp_word_of) :=
  (ok_word_of T).imp fun vs H Q E ⟨ds, L, R, RX, r, g, h, pq, px⟩ => by
    unfold asp_word_of at h
    split at h
    · obtain ⟨h1, h2, h3, h⟩ := h
      obtain ⟨v, rfl, r1⟩ := repL_one r
      exact ⟨v, _, rfl, rep_tree.mp r1, h1, h2, h3, g.tabs, fun q ws H' e' T' hs hf => pq _ L _ H' h (.extN e') (g.extN T' e') (rep_tup.mpr ⟨q, ws, rfl, hs, RepL.trees.mpr hf⟩)⟩
    · exact h.elim

def asp_ended : ASp
  | [a, .tree t], L, Q, _ => ∃ (S : List JW.T) (k : Nat) (n : Nd), a = n.d ∧ Nd.Wf S k n ∧ (∀ p ∈ t.word, p ∈ S) ∧ k + t.word.length ≤ 22 ∧ Op t ∧ t.dep < 121 ∧ t.size ≤ 1048576 ∧ Q (n.endN t.word).d L
  | _, _, _, _ => False
theorem okA_ended  (T : Txt K mg base) {scr : Option (Addr × List Int)} : CallD P w K mg base CX0 141 "ended" ["node", "fountain"] [] (spA (cA K scr) (asp_ended)) := by
  refine T.d_ended.okA sc_ended ?len (fun f cdv A outer s H E hr => (as_cons (as_for PassesOwn.never rfl (ai_tup (ae_call (okA_word_of T) (hr.mono (by decide)) (by rfl) (aa_cons (av 1) aa_nil))) (ag_name (i := 2) sc_ended.nd rfl (by first | exact Or.inl rfl | exact Or.inr rfl))
        (as_one (as_set (i := 0) sc_ended.nd rfl (by first | exact Or.inl rfl | exact Or.inr rfl) (ae_call (okA_trimmed T) (hr.mono (by decide)) (by rfl) (aa_cons ae_bl (aa_cons ae_bl (aa_cons (ae_lst (aa_cons (ae_tup (aa_cons (av 2) (aa_cons (av 0) aa_nil))) aa_nil)) aa_nil)))))))
      (as_one (as_ret (av 0))))) ?vc
  case len =>
    intro ds L R RX h
    unfold asp_ended at h
    split at h <;> first | rfl | exact h.elim
  case vc =>
    intro ds L R RX h
    unfold asp_ended at h
    split at h
    · rename_i a t
      obtain ⟨S, k, n, rfl, hn, hw, hk, ho, hd, hz, h⟩ := h
      have hsl := sizeLine_eq
      refine ⟨ho, hd, hz, ?_⟩
      refine loop_map D.tree t.word (fun pre env L' => SubS L L' ∧ ∃ x : Option D, env = [some (n.endN pre).d, some (.tree t), x]) (fun _ _ _ _ => trivial) ?step ?fin _ _ ⟨SubS.refl L, none, rfl⟩
      case fin =>
        rintro env L' ⟨s, x, rfl⟩
        exact ret_sub h s
      case step =>
        rintro pre p rest nn e kn env L' ⟨s, x, rfl⟩
        have hpre : ∀ q ∈ pre, q ∈ S := fun q hq => hw q (by rw [e]; exact List.mem_append_left _ hq)
        have hl : pre.length + 1 + rest.length = t.word.length := by rw [e]; simp; omega
        have hdp := Nd.dep_wf _ (Nd.wf_endN pre hn hpre)
        refine ⟨by show (2 : Nat) ≤ sizeLine; omega, by show (1 : Nat) ≤ sizeLine; omega, fun q hq => ?_⟩
        refine ⟨[(p, n.endN pre)], sput_same, by show (1 : Nat) < 1000000; decide, fun z hz2 => ?_, ?_⟩
        · rw [List.mem_singleton.mp hz2]
          show depD (n.endN pre).d ≤ 71
          omega
        · refine kn _ _ ⟨s.new hq, some (.tree p), ?_⟩
          have e2 : n.endN (pre ++ [p]) = Nd.trim false false [(p, n.endN pre)] := by
            unfold Nd.endN
            rw [List.foldl_append]
            rfl
          rw [e2]
          rfl
    · exact h.elim
theorem ok_Closed___init__ (T : Txt K mg base) : ErrD P w K mg base 2 "Closed" (He.ga K "Closed") ["self"] (spErr0 K (He.ga K "Closed")) := by
  refine T.e_Closed.ok sc_Closed___init__ (fun vs H Q E h => ?_) (fun f cdv A outer s H vs Q E hr h => ?_)
  · obtain ⟨a, rfl, _⟩ := h
    rfl
  · obtain ⟨a, rfl, ha, k⟩ := h
    refine ⟨_, (pss_one (ps_expr (pe_cinit (by rfl) T.b_JetError.1 T.b_JetError.2 (pa_cons (pv 0) (pa_cons pe_str pa_nil))))), ?_⟩
    exact ⟨.ref a, rfl, a, He.ga K "Closed", [.str "Closed"], rfl, by show 1 ≤ 1000; decide, T.e_Closed.c.o, ha, k⟩
def asp_need_open_x : ASp
  | [.tup ds], L, Q, RX => ∃ ts : List JW.T, ds = ts.map .tree ∧ ((∃ t ∈ ts, t.jts = 0) → RX "Closed" [] L) ∧ ((∀ t ∈ ts, 0 < t.jts) → Q .non L)
  | _, _, _, _ => False
theorem okA_need_open_x  (T : Txt K mg base) {scr : Option (Addr × List Int)} : CallS P w K mg base (L2.CX P w) 4 "need_open" (starSp 0 (spA (cA K scr) (asp_need_open_x))) := by
  refine T.d_need_open.okAX sc_need_open (fun f cdv A outer s H E RX hE hr => (as_one (as_for (passes_of rfl) rfl (ai_tup (av 0)) (ag_name (i := 1) sc_need_open.nd rfl (by first | exact Or.inl rfl | exact Or.inr rfl))
        (as_one (as_if (at_not (at_bl (ae_propG (fun t => .bl (decide (0 < t.jts))) (fun _ _ => rep_bl.mpr rfl) T.cls.c (ok_Fountain_is_open T) (hr.mono (by decide)) (av 1) rfl)))
          (as_one (as_raise0 rfl (takes_of rfl rfl rfl rfl) hE (ok_Closed___init__ T) (hr.mono (by decide)) (by rfl)))
          as_nil))))) ?vc
  case vc =>
    intro ds L R RX h
    unfold asp_need_open_x at h
    split at h
    · rename_i ds
      obtain ⟨ts, rfl, hE, hO⟩ := h
      refine loop_map D.tree ts (fun pre env L' => L' = L ∧ (∀ t ∈ pre, 0 < t.jts) ∧ ∃ x : Option D, env = [some (.tup (ts.map .tree)), x]) (fun _ _ _ _ => trivial) ?step ?fin _ _ ⟨rfl, fun _ h => absurd h List.not_mem_nil, none, rfl⟩
      case fin =>
        rintro env L' ⟨rfl, hp, x, rfl⟩
        exact ret_of (hO hp)
      case step =>
        rintro pre t rest nn e kn env L' ⟨rfl, hp, x, rfl⟩
        refine ite2 (fun e1 => ?_) (fun e1 => ?_)
        · exact ⟨L', SubS.refl L', hE ⟨t, by rw [e]; simp, by simpa using e1⟩⟩
        · refine kn _ _ ⟨rfl, fun u hu => ?_, _, rfl⟩
          rcases List.mem_append.mp hu with h1 | h1
          · exact hp u h1
          · rw [List.mem_singleton.mp h1]
            exact Nat.pos_of_ne_zero (by simpa using e1)
    · exact h.elim
theorem ni_Kind (T : Txt K mg base) {scr : Option (Addr × List Int)} : ¬ IC (cA K scr) (He.ga K "Kind") := fun h => by
  rcases h with h | ⟨x, hx, _⟩
  · exact T.ny_Kind h
  · exact absurd hx List.not_mem_nil
theorem look_nd {d : D} : ((["node"] : List Str).zip [d]).lookup ("node" : Str) = some d := by
  show (match ("node" : Str) == ("node" : Str) with | true => some d | false => none) = some d
  rw [beq_self_eq_true]
def asp_Kind___init__ (K : PySem.W.Frag) : ASp
  | [.ref p, d], L, Q, _ => L p = some (.ins (He.ga K "Kind") [] []) ∧ Q .non (sput L p (.ins (He.ga K "Kind") ["node"] [d]))
  | _, _, _, _ => False
theorem okA_Kind___init__  (T : Txt K mg base) {scr : Option (Addr × List Int)} : MakeD P w K mg base CX0 2 "Kind" (He.ga K "Kind") ["self", "node"] [] (spA (cA K scr) (asp_Kind___init__ K)) := by
  refine T.init_Kind.okA sc_Kind___init__ ?len (fun f cdv A outer s H E hr => (as_one (as_fldM (K := K) rfl (av 0) (av 1)))) ?vc
  case len =>
    intro ds L R RX h
    unfold asp_Kind___init__ at h
    split at h <;> first | rfl | exact h.elim
  case vc =>
    intro ds L R RX h
    unfold asp_Kind___init__ at h
    split at h
    · rename_i p d
      obtain ⟨hy, h⟩ := h
      exact ⟨p, _, _, _, rfl, hy, T.o_Kind.c, T.na_Kind_node, .inl rfl, ret_of h⟩
    · exact h.elim
def asp_Kind_ending (K : PySem.W.Frag) : ASp
  | [.ref C, .tree t], L, Q, RX => C = He.ga K "Kind" ∧ (t.jts = 0 → RX "Closed" [] L) ∧ (0 < t.jts → Op t ∧ t.dep < 121 ∧ t.size ≤ 1048576 ∧ t.word.length ≤ 20 ∧ ∀ p, L p = none → Q (.ref p) (sput L p (KdM K ((Nd.uni true).endN t.word))))
  | _, _, _, _ => False
theorem okA_Kind_ending  (T : Txt K mg base) {scr : Option (Addr × List Int)} : CmD P w K mg base (L2.CX P w) 151 (He.ga K "Kind") "ending" ["cls", "b"] (spA (cA K scr) (asp_Kind_ending K)) := by
  refine T.c_Kind_ending.okAX sc_Kind_ending ?len (fun f cdv A outer s H E RX hE hr => (as_cons (as_expr (ae_callStX (okA_need_open_x T) (hr.mono (by decide)) (by rfl) (passE rfl rfl rfl rfl) hE (aa_cons (av 1) aa_nil)))
      (as_one (as_ret (ae_makeMV (okA_Kind___init__ T) (hr.mono (by decide)) (ni_Kind T) (av 0) (aa_cons (ae_call (okA_ended T) (hr.mono (by decide)) (by rfl) (aa_cons (ae_call (okA_uniform T) (hr.mono (by decide)) (by rfl) (aa_cons ae_bl aa_nil)) (aa_cons (av 1) aa_nil))) aa_nil)))))) ?vc
  case len =>
    intro ds L R RX h
    unfold asp_Kind_ending at h
    split at h <;> first | rfl | exact h.elim
  case vc =>
    intro ds L R RX h
    unfold asp_Kind_ending at h
    split at h
    · rename_i C t
      obtain ⟨rfl, hE, hO⟩ := h
      have hsl := sizeLine_eq
      refine ⟨by show (1 : Nat) ≤ sizeLine; omega, [t], rfl, fun ⟨u, hu, h0⟩ => hE (by rw [List.mem_singleton.mp hu] at h0; exact h0), fun hop => ?_⟩
      obtain ⟨h0, h1, h2, h3, h4⟩ := hO (hop t List.mem_cons_self)
      refine ⟨rfl, t.word, 0, Nd.uni true, rfl, Nd.wf_uni _ _ 0, fun p hp => hp, by omega, h0, h1, h2, fun p hp => ⟨sput_same, rfl, ?_⟩⟩
      rw [sput_sput]
      exact ret_of (h4 p hp)
    · exact h.elim
def asp_decided : ASp
  | [.str s, .bl a, .bl b], L, Q, _ => Q (.bl (Nd.dec s a b)) L
  | _, _, _, _ => False
theorem okA_decided  (T : Txt K mg base) {scr : Option (Addr × List Int)} : CallD P w K mg base CX0 81 "decided" ["sign", "one", "other"] [] (spA (cA K scr) (asp_decided)) := by
  refine T.d_decided.okA sc_decided ?len (fun f cdv A outer s H E hr => (as_cons (as_if (at_cmp (aop_eqG (okF_eq T) (hr.mono (by decide)) hr.units) (av 0) ae_str (nomark _))
        (as_one (as_ret (ae_or (av 1) (ae_one (av 2)))))
        as_nil)
      (as_cons (as_if (at_cmp (aop_eqG (okF_eq T) (hr.mono (by decide)) hr.units) (av 0) ae_str (nomark _))
        (as_one (as_ret (ae_and (av 1) (ae_one (av 2)))))
        as_nil)
      (as_cons (as_if (at_cmp (aop_eqG (okF_eq T) (hr.mono (by decide)) hr.units) (av 0) ae_str (nomark _))
        (as_one (as_ret (ae_and (av 1) (ae_one (ae_not (av 2))))))
        as_nil)
      (as_one (as_ret (ae_cmp (aop_neG T.cls (okF_eq T) (hr.mono (by decide)) hr.units) (av 1) (av 2) (nomark _)))))))) ?vc
  case len =>
    intro ds L R RX h
    unfold asp_decided at h
    split at h <;> first | rfl | exact h.elim
  case vc =>
    intro ds L R RX h
    unfold asp_decided at h
    split at h
    · rename_i s a b
      have hd : Nd.dec s a b = if s = "|" then a || b else if s = "&" then a && b else if s = "-" then a && !b else a != b := rfl
      refine ite2 (fun e => ?_) (fun e => ?_)
      · have e1 : s = "|" := by simpa using e
        rw [if_pos e1] at hd
        rw [hd] at h
        cases a <;> exact ret_of h
      have e1 : ¬ s = "|" := by simpa using e
      rw [if_neg e1] at hd
      refine ite2 (fun e => ?_) (fun e => ?_)
      · have e2 : s = "&" := by simpa using e
        rw [if_pos e2] at hd
        rw [hd] at h
        cases a <;> exact ret_of h
      have e2 : ¬ s = "&" := by simpa using e
      rw [if_neg e2] at hd
      refine ite2 (fun e => ?_) (fun e => ?_)
      · have e3 : s = "-" := by simpa using e
        rw [if_pos e3] at hd
        rw [hd] at h
        cases a <;> exact ret_of h
      have e3 : ¬ s = "-" := by simpa using e
      rw [if_neg e3] at hd
      rw [hd] at h
      refine ret_of ?_
      cases a <;> cases b <;> exact h
    · exact h.elim
def asp_below : ASp
  | [n, .tree p], L, Q, _ => ∃ m : Nd, n = m.d ∧ Q (m.sub p).d L
  | _, _, _, _ => False
theorem okA_below  (T : Txt K mg base) {scr : Option (Addr × List Int)} : CallD P w K mg base CX0 91 "below" ["node", "prime"] [] (spA (cA K scr) (asp_below)) := by
  refine T.d_below.okA sc_below ?len (fun f cdv A outer s H E hr => (as_cons (as_for PassesOwn.never rfl (ai_tup (ae_ix (av 0) ae_int (fun _ _ => rfl))) (ag_tup (n := 2) rfl (ags_cons (ag_name (i := 2) sc_below.nd rfl (by first | exact Or.inl rfl | exact Or.inr rfl)) (ags_cons (ag_name (i := 3) sc_below.nd rfl (by first | exact Or.inl rfl | exact Or.inr rfl)) ags_nil)) (fun _ _ _ _ z => agNs_len (js := [2, 3]) z))
        (as_one (as_if (at_cmp (aop_eqG (okF_eq T) (hr.mono (by decide)) hr.units) (av 2) (av 1) (nomark _))
          (as_one (as_ret (av 3)))
          as_nil)))
      (as_one (as_ret (ae_call (okA_uniform T) (hr.mono (by decide)) (by rfl) (aa_cons (ae_ix (av 0) ae_int (fun _ _ => rfl)) aa_nil)))))) ?vc
  case len =>
    intro ds L R RX h
    unfold asp_below at h
    split at h <;> first | rfl | exact h.elim
  case vc =>
    intro ds L R RX h
    unfold asp_below at h
    split at h
    · rename_i n p
      obtain ⟨m, rfl, h⟩ := h
      rw [Nd.d_eq m]
      refine ⟨_, Nd.at3_2, ?_⟩
      refine loop_map (fun q : JW.T × Nd => D.tup [.tree q.1, q.2.d]) m.br (fun pre env L' => L' = L ∧ (∀ q ∈ pre, q.1 ≠ p) ∧ ∃ x y : Option D, env = [some (.tup [.bl m.own, .bl m.rest, .tup (m.br.map fun q => .tup [.tree q.1, q.2.d])]), some (.tree p), x, y]) (fun _ _ _ _ => trivial) ?step ?fin _ _ ⟨rfl, fun _ h => absurd h List.not_mem_nil, none, none, rfl⟩
      case fin =>
        rintro env L' ⟨rfl, hp, x, y, rfl⟩
        rw [Nd.sub_miss hp] at h
        exact ⟨_, Nd.at3_1, ret_of h⟩
      case step =>
        rintro pre q rest nn e kn env L' ⟨rfl, hp, x, y, rfl⟩
        refine ⟨rfl, ite2 (fun e1 => ?_) (fun e1 => ?_)⟩
        · rw [Nd.sub_hit e hp (by simpa using e1)] at h
          exact ret_of h
        · refine kn _ _ ⟨rfl, fun u hu => ?_, _, _, rfl⟩
          rcases List.mem_append.mp hu with h1 | h1
          · exact hp u h1
          · rw [List.mem_singleton.mp h1]
            simpa using e1
    · exact h.elim
def sp_check_numbers (K : PySem.W.Frag) : Sp := fun vs H Q _ => ∃ n t, vs = [.ref n] ∧ H n = some (.tup (nums t)) ∧ t.size ≤ 5000 ∧ t.dep ≤ 120 ∧ Q .non H
theorem ok_check_numbers  (T : Txt K mg base) : CallD P w K mg base CX0 1 "check_numbers" ["numbers"] [] (sp_check_numbers K) := by
  refine T.d_check_numbers.ok sc_check_numbers (fun vs H Q E h => ?_) (fun f cdv A outer s H vs Q E hr h => ?_)
  · obtain ⟨n, t, rfl, _⟩ := h
    rfl
  · obtain ⟨n, t, rfl, hn, h1, h2, k⟩ := h
    refine ⟨_, (pss_cons (ps_if (pt_cmpR op_gt (pe_ix ix_tup (pv 0) pe_int (fun _ _ => rfl)) (pe_gint rfl T.gMOST) (nomark _))
        pss_never
        pss_nil)
      (pss_one (ps_if (pt_cmpR op_gt (pe_ix ix_tup (pv 0) pe_int (fun _ _ => rfl)) (pe_gint rfl T.gDEEPEST) (nomark _))
        pss_never
        pss_nil))), ?_⟩
    exact ⟨.ref n, rfl, n, _, _, _, rfl, rfl, SqT.of hn, rfl, _, _, rfl, rfl, _, rfl, ite_f (decide_eq_false (by omega)) ⟨.ref n, rfl, n, _, _, _, rfl, rfl, SqT.of hn, rfl, _, _, rfl, rfl, _, rfl, ite_f (decide_eq_false (by omega)) k⟩⟩
def sp_parsed (K : PySem.W.Frag) : Sp := fun vs H Q _ => ∃ u : JW.T, vs = [.str (tx u)] ∧ u.size ≤ 500000 ∧ LamX.Tabs (TT K) H ∧ ∀ b xs H', LamX.ExtN H H' → LamX.Tabs (TT K) H' → H' b = some (.tup xs) → FtnL (cF K) H' u.canon.kids xs → Q (.ref b) H'
def PInv (K : PySem.W.Frag) (u : JW.T) (H : Hp) (i : Nat) (σ : L2.St) (H' : Hp) : Prop := ∃ D b qs st fd v4 v5 v6, σ = [some (.str (tx u)), some (.ref D), some (.ref b), some (.bl (Option.isSome fd)), v4, v5, v6] ∧ H D = none ∧ LamX.ExtN H H' ∧ LamX.Tabs (TT K) H' ∧ H' D = some (.lst (List.reverse qs)) ∧
  PendR (cF K) H' st qs ∧ (∃ xs, H' b = some (.tup xs) ∧ ∀ t, fd = some t → FtnL (cF K) H' (T.kids t) xs) ∧ prun (u.codes.drop i) (st, fd) = some ([], some u.canon) ∧ wtS (st, fd) ≤ i
theorem pinvA {K : PySem.W.Frag} {u : JW.T} {H H2 H3 : Hp} {i : Nat} {D a b q : Addr} {ws xs bx : List V} {p2 : List JW.T} {r2 : List (List JW.T)} {t : JW.T} {v : V} {v4 v5 v6 : Option V} (hD0 : H D = none) (hE : LamX.ExtN H H2) (hT : LamX.Tabs (TT K) H2) (s : Same H2 H3) (hD : H2 D = some (.lst (V.ref a :: ws).reverse))
    (hf : FtnL (cF K) H2 p2 xs) (hr : PendR (cF K) H2 r2 ws) (ht : Ftn (cF K) H2 t v) (hq : H3 q = some (.tup (xs ++ [v]))) (hb : H2 b = some (.tup bx)) (hrun : prun (u.codes.drop (i + 1)) ((p2 ++ [t]) :: r2, none) = some ([], some u.canon)) (hw : wtS ((p2 ++ [t]) :: r2, none) ≤ i + 1) :
    PInv K u H (i + 1) [some (.str (tx u)), some (.ref D), some (.ref b), some (.bl false), v4, v5, v6] (upd H3 D (.lst (V.ref q :: ws).reverse)) := by
  have hD3 := s _ _ hD
  have hT3 := Tabs.same hT s
  have nq : q ≠ D := ne_of hq hD3 fun z => by cases z
  have nb : b ≠ D := ne_of hb hD fun z => by cases z
  have hx : ExtD D H3 (upd H3 D (.lst (V.ref q :: ws).reverse)) := ExtD.put (ExtD.refl D H3)
  refine ⟨D, b, V.ref q :: ws, (p2 ++ [t]) :: r2, none, v4, v5, v6, rfl, hD0, fun c o e n => ?_, Tabs.put hT3 hD3, upd_same, ?_, ⟨bx, by rw [upd_ne nb]; exact s _ _ hb, fun t z => by cases z⟩, hrun, hw⟩
  · rw [upd_ne (ne_of_none e hD0)]
    exact s _ _ (hE _ _ e n)
  · exact ⟨q, xs ++ [v], ws, rfl, by rw [upd_ne nq]; exact hq, ftnL_extD hD3 hx _ _ ((hf.same s).app (FtnL.one (ht.same s))), PendR.extD hD3 hx (hr.ext (.of s))⟩
theorem pinvN {K : PySem.W.Frag} {u : JW.T} {H H2 H3 : Hp} {i : Nat} {D b q : Addr} {qs bx : List V} {st : List (List JW.T)} {v4 v5 v6 : Option V} (hD0 : H D = none) (hE : LamX.ExtN H H2) (hT : LamX.Tabs (TT K) H2) (s : Same H2 H3) (hD : H2 D = some (.lst qs.reverse))
    (hr : PendR (cF K) H2 st qs) (hq : H3 q = some (.tup [])) (hb : H2 b = some (.tup bx)) (hrun : prun (u.codes.drop (i + 1)) ([] :: st, none) = some ([], some u.canon)) (hw : wtS ([] :: st, none) ≤ i + 1) :
    PInv K u H (i + 1) [some (.str (tx u)), some (.ref D), some (.ref b), some (.bl false), v4, v5, v6] (upd H3 D (.lst (qs.reverse ++ [V.ref q]))) := by
  have hD3 := s _ _ hD
  have hT3 := Tabs.same hT s
  have nq : q ≠ D := ne_of hq hD3 fun z => by cases z
  have nb : b ≠ D := ne_of hb hD fun z => by cases z
  have hx : ExtD D H3 (upd H3 D (.lst (qs.reverse ++ [V.ref q]))) := ExtD.put (ExtD.refl D H3)
  refine ⟨D, b, V.ref q :: qs, [] :: st, none, v4, v5, v6, rfl, hD0, fun c o e n => ?_, Tabs.put hT3 hD3, by rw [upd_same, List.reverse_cons], ?_, ⟨bx, by rw [upd_ne nb]; exact s _ _ hb, fun t z => by cases z⟩, hrun, hw⟩
  · rw [upd_ne (ne_of_none e hD0)]
    exact s _ _ (hE _ _ e n)
  · exact ⟨q, [], qs, rfl, by rw [upd_ne nq]; exact hq, rfl, PendR.extD hD3 hx (hr.ext (.of s))⟩
theorem ok_parsed  (T : Txt K mg base) : CallD P w K mg base CX0 7 "parsed" ["text"] [] (sp_parsed K) := by
  refine T.d_parsed.ok sc_parsed (fun vs H Q E h => ?_) (fun f cdv A outer s H vs Q E hr h => ?_)
  · obtain ⟨u, rfl, _⟩ := h
    rfl
  · obtain ⟨u, rfl, hsz, hT, k⟩ := h
    have hcl := (codes_len u).1
    have hsl := sizeLine_eq
    have hcz : (tx u).cps.size = u.codes.length := by
      show (u.codes.toArray).size = _
      rw [List.size_toArray]
    refine ⟨_, (pss_cons (ps_set (i := 1) sc_parsed.nd rfl (by first | exact Or.inl rfl | exact Or.inr rfl) (pe_lst pa_nil))
      (pss_cons (ps_asg (pe_tup (pa_cons (pe_tup pa_nil) (pa_cons pe_bl pa_nil))) (pg_tup rfl (pgs_cons (pg_name (i := 2) sc_parsed.nd rfl (by first | exact Or.inl rfl | exact Or.inr rfl)) (pgs_cons (pg_name (i := 3) sc_parsed.nd rfl (by first | exact Or.inl rfl | exact Or.inr rfl)) pgs_nil))))
      (pss_cons (ps_for PassesOwn.never rfl (pi_enumS (by rfl) T.n_enumerate (pa_cons (pv 0) pa_nil)) (pg_tup rfl (pgs_cons (pg_name (i := 4) sc_parsed.nd rfl (by first | exact Or.inl rfl | exact Or.inr rfl)) (pgs_cons (pg_name (i := 5) sc_parsed.nd rfl (by first | exact Or.inl rfl | exact Or.inr rfl)) pgs_nil)))
        (pss_cons (ps_if (PW.pt (pw_or (pt_val (pv 3)) (pw_or (pt_cmpR op_notin_str (pv 5) pe_str (by rfl)) (pw_or1 (PW.pt (pw_and (pt_cmpR op_eq (pv 5) pe_str (nomark _)) (pw_and1 (pt_cmpR op_eq (pe_callB call_len (by rfl) T.n_len (by decide +kernel) (pa_cons (pv 1) pa_nil)) pe_int (nomark _)))))))))
          pss_never
          pss_nil)
        (pss_one (ps_via (ps_if (pt_cmpR op_eq (pv 5) pe_str (nomark _))
          (pss_one (ps_expr (pe_bm PySem.F.plainAttrs_list PySem.F.slot_list_append PySem.F.type_list_append mt_append (pv 1) (pa_cons (pe_tup pa_nil) pa_nil))))
          (pss_cons (ps_set (i := 6) sc_parsed.nd rfl (by first | exact Or.inl rfl | exact Or.inr rfl) (pe_via (pe_ifExp (pt_cmpR op_eq (pv 5) (pe_gstr rfl T.gJET_TEXT) (nomark _)) (pe_makeD (ok_Fountain___init__ T) (hr.mono (by decide)) (by rfl) pass0 (pa_cons (pe_gstr rfl T.gJET_TEXT) (pa_cons (pe_tup pa_nil) pa_nil))) (pe_callD (ok_made T) (hr.mono (by decide)) (by rfl) pass0 (pa_cons (pe_bm0 PySem.F.plainAttrs_list PySem.F.slot_list_pop PySem.F.type_list_pop mt_pop (pv 1)) pa_nil)))))
          (pss_one (ps_via (ps_if (pt_cmpR op_gt (pe_callB call_len (by rfl) T.n_len (by decide +kernel) (pa_cons (pv 1) pa_nil)) pe_int (nomark _))
            (pss_one (ps_asg (pe_op op_catA (pe_ix ix_list (pv 1) (pe_un un_neg pe_int) (fun _ _ => rfl)) (pe_tup (pa_cons (pv 6) pa_nil))) (pg_sub (pv 1) (pe_un un_neg pe_int) set_list)))
            (pss_one (ps_par (i := 2) (j := 3) (by rfl) sc_parsed.nd rfl rfl (by decide) rfl rfl (pa_cons (pe_propD T.cls.c (ok_Fountain_parts T) (hr.mono (by decide)) pass0 (pv 6) rfl) (pa_cons pe_bl pa_nil)) (by rfl))))))))))))
      (pss_cons (ps_if (pt_not (pt_val (pv 3)))
        pss_never
        pss_nil)
      (pss_one (ps_ret (pv 2))))))), ?_⟩
    refine ⟨by decide, fun D hD => ⟨by decide, fun b hb => ⟨sz2, fun p hp => ⟨p, _, rfl, SqT.of upd_same, rfl, _, _, rfl, _, _, rfl, rfl, .str (tx u), rfl, _, rfl, ?_⟩⟩⟩⟩
    refine for_enumS (PInv K u H) ?_ (fun i c σ H' Tp hc hP hTp => ?_) fun σ H' hP => ?_
    · have s3 : Same H (upd (upd (upd H D (.lst [])) b (.tup [])) p (.tup [.ref b, .bl false])) := Same.new (Same.new (Same.new (Same.refl H) hD) hb) hp
      exact ⟨D, b, [], [], none, none, none, none, rfl, hD, .of s3, Tabs.same hT s3, upd_old (upd_old upd_same hb) hp, rfl, ⟨[], upd_old upd_same hp, fun t z => by cases z⟩, prun_all u, Nat.le_refl _⟩
    · obtain ⟨D, b, qs, st, fd, v4, v5, v6, rfl, hD0, hE, hT', hDq, hp', ⟨bx, hbx, hfd⟩, hrun, hwt⟩ := hP
      have hc' : u.codes[i]? = some c := by
        have : (u.codes.toArray)[i]? = some c := hc
        rw [List.getElem?_toArray] at this
        exact this
      have hi : i < u.codes.length := (List.getElem?_eq_some_iff.mp hc').1
      obtain ⟨⟨st', fd'⟩, hst, hrun'⟩ := prun_step hc' hrun
      have hwt2 : wtS (st', fd') ≤ i + 1 := Nat.le_trans (pstep_wt hst) (Nat.succ_le_succ hwt)
      have hql := hp'.len
      have hsl2 := wtL_len st
      have hwl : wtL st ≤ i := Nat.le_trans (Nat.le_add_right _ _) hwt
      obtain ⟨rfl, hcs⟩ := pstep_cases hst
      have sT : Same H' (upd H' Tp (.tup [.int (i : Nat), .str ⟨#[c]⟩])) := Same.new (Same.refl H') hTp
      generalize hH1 : upd H' Tp (.tup [.int (i : Nat), .str ⟨#[c]⟩]) = H1 at sT ⊢
      have eT : H1 Tp = some (.tup [.int (i : Nat), .str ⟨#[c]⟩]) := by rw [← hH1, upd_same]
      have hE1 : LamX.ExtN H H1 := hE.trans (.of sT)
      have hT1 := Tabs.same hT' sT
      have hD1 := sT _ _ hDq
      have hp1 : PendR (cF K) H1 st qs := hp'.ext (.of sT)
      have hb1 := sT _ _ hbx
      refine ⟨Tp, _, rfl, SqT.of eT, rfl, _, _, rfl, _, _, rfl, rfl, .bl false, rfl, _, rfl, ite_f rfl ⟨.str ⟨#[c]⟩, rfl, _, _, rfl, rfl, _, rfl, ite_f ?_ ⟨.str ⟨#[c]⟩, rfl, rfl, _, rfl, ite2 (fun e => ?_) fun e => ite_f rfl ?_⟩⟩⟩
      · rcases hcs with ⟨rfl, _⟩ | ⟨rfl, _⟩ | ⟨rfl, _⟩ <;> decide +kernel
      · -- a closing sign: something is open
        have ec : c = 41 := by
          rcases hcs with ⟨rfl, _⟩ | ⟨rfl, _⟩ | ⟨rfl, _⟩
          · exact absurd e (by decide +kernel)
          · exact absurd e (by decide +kernel)
          · rfl
        subst ec
        rcases hcs with ⟨z, _⟩ | ⟨z, _⟩ | ⟨_, pp, r, rfl, hs'⟩
        · cases z
        · cases z
        have hql2 : qs.reverse.length = r.length + 1 := by rw [List.length_reverse, hql]; rfl
        refine ⟨.ref D, rfl, .ref D, _, rfl, .inl ⟨_, SqL.of hD1, rfl⟩, rfl, _, rfl, ite_f (decide_eq_false fun z => ?_) ⟨PInv K u H (i + 1), ⟨.str ⟨#[41]⟩, rfl, rfl, _, rfl, ite_f (by decide +kernel) ?_⟩, fun _ _ z => z⟩⟩
        · have z2 := V.int.inj z
          omega
        -- the piece is made
        obtain ⟨a, xs, ws, rfl, ha, hfp, hpr⟩ := (show ∃ a xs ws, qs = .ref a :: ws ∧ H1 a = some (.tup xs) ∧ FtnL (cF K) H1 pp xs ∧ PendR (cF K) H1 r ws from hp1)
        have hx : ExtD D H1 (upd H1 D (.lst ws.reverse)) := ExtD.put (ExtD.refl D H1)
        have hwp : sizeL pp ≤ i := by
          have : 1 + sizeL pp + wtL r ≤ i := hwl
          omega
        refine ⟨fun v H2 => H2 D = some (.lst ws.reverse) ∧ PendR (cF K) H2 r ws ∧ Ftn (cF K) H2 (.bas (sortT pp)) v ∧ LamX.ExtN H H2 ∧ LamX.Tabs (TT K) H2 ∧ H2 b = some (.tup bx), ⟨.str ⟨#[41]⟩, rfl, rfl, _, rfl, ite_f (by decide +kernel) ⟨.ref D, rfl, tyL hD1, D, _, .ref a, rfl, rfl, hD1, sq_last _ _, ?_⟩⟩, fun v H2 ⟨hD2, hp2, hv, hE2, hT2, hb2⟩ => ?_⟩
        · rw [sq_butlast]
          refine ⟨a, xs, pp, rfl, .inr (SqT.of (by rw [upd_ne (ne_of ha hD1 fun z => by cases z)]; exact ha)), ftnL_extD hD1 hx _ _ hfp, by omega, Tabs.put hT1 hD1, fun w H' e1 e2 e3 => ⟨e1 _ _ upd_same (fun ps z => by cases z), (PendR.extD hD1 hx hpr).ext e1, e3, fun c o ec n => e1 _ _ (by rw [upd_ne (ne_of_none ec hD0)]; exact hE1 _ _ ec n) n, e2, e1 _ _ (by rw [upd_ne (ne_of hb1 hD1 fun z => by cases z)]; exact hb1) (fun ps z => by cases z)⟩⟩
        · have hl2 := hp2.len
          refine ⟨PInv K u H (i + 1), ⟨.ref D, rfl, .ref D, _, rfl, .inl ⟨_, SqL.of hD2, rfl⟩, _, _, rfl, rfl, _, rfl, ite2 (fun e => ?_) fun e => ?_⟩, fun _ _ z => z⟩
          · cases r with
            | nil =>
              rw [List.length_reverse, hl2] at e
              exact absurd (of_decide_eq_true e) (by show ¬ ((0 : Int) < ((0 : Nat) : Int)); decide)
            | cons p2 r2 =>
              obtain ⟨a2, ys, ws2, rfl, ha2, hf2, hr2⟩ := (show ∃ a xs zs, ws = .ref a :: zs ∧ H2 a = some (.tup xs) ∧ FtnL (cF K) H2 p2 xs ∧ PendR (cF K) H2 r2 zs from hp2)
              have hs2 : st' = (p2 ++ [.bas (sortT pp)]) :: r2 ∧ fd' = none := by
                have e3 : (st', fd') = ((p2 ++ [.bas (sortT pp)]) :: r2, none) := hs'
                exact Prod.mk.inj e3
              obtain ⟨rfl, rfl⟩ := hs2
              have hyl : ys.length + 1 ≤ sizeLine := by
                have h1 := hf2.len
                have h2 := length_le p2
                have h3 : 1 + sizeL (p2 ++ [.bas (sortT pp)]) + wtL r2 + 0 ≤ i + 1 := hwt2
                rw [sizeL_app] at h3
                omega
              refine ⟨.ref D, rfl, 1, rfl, D, _, _, _, rfl, rfl, SqL.of hD2, at_last _ _, v, rfl, sz1, fun q hq => ⟨a2, q, ys, [v], rfl, rfl, SqT.of (upd_old ha2 hq), SqT.of upd_same, hyl, fun hy => ⟨.ref D, rfl, 1, rfl, D, _, _, _, rfl, rfl, upd_old hD2 hq, ix_last (by simp), ?_⟩, fun _ z => absurd z (by simp), fun _ _ q2 hq2 => ⟨.ref D, rfl, 1, rfl, D, _, _, _, rfl, rfl, upd_old (upd_old hD2 hq) hq2, ix_last (by simp), ?_⟩⟩⟩
              · subst hy
                rw [set_last]
                exact pinvA hD0 hE2 hT2 (Same.new (Same.refl H2) hq) hD2 hf2 hr2 hv (by rw [upd_same]; rfl) hb2 hrun' hwt2
              · rw [set_last]
                exact pinvA hD0 hE2 hT2 (Same.new (Same.new (Same.refl H2) hq) hq2) hD2 hf2 hr2 hv upd_same hb2 hrun' hwt2
          · cases r with
            | cons p2 r2 =>
              refine absurd (decide_eq_true ?_) e
              rw [List.length_reverse, hl2]
              show (0 : Int) < ((r2.length + 1 : Nat) : Int)
              omega
            | nil =>
              have hs2 : st' = [] ∧ fd' = some (.bas (sortT pp)) := Prod.mk.inj hs'
              obtain ⟨rfl, rfl⟩ := hs2
              refine ⟨v, rfl, ev_kids hv fun b' xs' hb' hk' => ⟨_, _, rfl, ?_⟩⟩
              exact ⟨D, b', ws, [], some (.bas (sortT pp)), _, _, _, rfl, hD0, hE2, hT2, hD2, hp2, ⟨xs', hb', fun t' z => by cases z; exact hk'⟩, hrun', hwt2⟩
      · -- no closing sign
        rcases hcs with ⟨rfl, hs'⟩ | ⟨rfl, hs'⟩ | ⟨rfl, _⟩
        · obtain ⟨rfl, rfl⟩ := Prod.mk.inj hs'
          refine ⟨PInv K u H (i + 1), ⟨.str ⟨#[40]⟩, rfl, rfl, _, rfl, ite_t (by decide +kernel) ⟨.ref D, rfl, tyL hD1, by decide, fun q hq => ⟨D, _, .ref q, rfl, rfl, upd_old hD1 hq, ?_, ?_⟩⟩⟩, fun _ _ z => z⟩
          · rw [List.length_reverse]
            omega
          · exact pinvN hD0 hE1 hT1 (Same.new (Same.refl H1) hq) hD1 hp1 upd_same hb1 hrun' hwt2
        · generalize hr0 : st = r at *
          generalize hq0 : qs = ws at *
          refine ⟨PInv K u H (i + 1), ⟨.str ⟨#[111]⟩, rfl, rfl, _, rfl, ite_f (by decide +kernel) ?_⟩, fun _ _ z => z⟩
          refine ⟨fun v H2 => H2 D = some (.lst ws.reverse) ∧ PendR (cF K) H2 r ws ∧ Ftn (cF K) H2 .jet v ∧ LamX.ExtN H H2 ∧ LamX.Tabs (TT K) H2 ∧ H2 b = some (.tup bx), ⟨.str ⟨#[111]⟩, rfl, rfl, _, rfl, ite_t (by decide +kernel) ⟨by decide, fun q hq x dx hx hdx hne => ?_⟩⟩, fun v H2 ⟨hD2, hp2, hv, hE2, hT2, hb2⟩ => ?_⟩
          · have sQ : Same H1 (upd H1 q (.tup [])) := Same.new (Same.refl H1) hq
            refine ⟨x, dx, .jet, q, [], upd H1 q (.tup []), by rw [tx_jet]; rfl, hx, Same.new (Same.new (Same.refl _) hdx) (by rw [upd_ne (Ne.symm hne)]; exact hx), upd_same, upd_same, rfl, by show 0 < sizeLine; omega, fun H5 s5 f5 => ⟨rfl, ?_⟩⟩
            have s6 : Same H1 H5 := sQ.trans s5
            exact ⟨s6 _ _ hD1, hp1.ext (.of s6), f5, hE1.trans (.of s6), Tabs.same hT1 s6, s6 _ _ hb1⟩
          · have hl2 := hp2.len
            refine ⟨PInv K u H (i + 1), ⟨.ref D, rfl, .ref D, _, rfl, .inl ⟨_, SqL.of hD2, rfl⟩, _, _, rfl, rfl, _, rfl, ite2 (fun e => ?_) fun e => ?_⟩, fun _ _ z => z⟩
            · cases r with
              | nil =>
                rw [List.length_reverse, hl2] at e
                exact absurd (of_decide_eq_true e) (by show ¬ ((0 : Int) < ((0 : Nat) : Int)); decide)
              | cons p2 r2 =>
                obtain ⟨a2, ys, ws2, rfl, ha2, hf2, hr2⟩ := (show ∃ a xs zs, ws = .ref a :: zs ∧ H2 a = some (.tup xs) ∧ FtnL (cF K) H2 p2 xs ∧ PendR (cF K) H2 r2 zs from hp2)
                have hs2 : st' = (p2 ++ [.jet]) :: r2 ∧ fd' = none := by
                  have e3 : (st', fd') = ((p2 ++ [.jet]) :: r2, none) := hs'
                  exact Prod.mk.inj e3
                obtain ⟨rfl, rfl⟩ := hs2
                have hyl : ys.length + 1 ≤ sizeLine := by
                  have h1 := hf2.len
                  have h2 := length_le p2
                  have h3 : 1 + sizeL (p2 ++ [.jet]) + wtL r2 + 0 ≤ i + 1 := hwt2
                  rw [sizeL_app] at h3
                  omega
                refine ⟨.ref D, rfl, 1, rfl, D, _, _, _, rfl, rfl, SqL.of hD2, at_last _ _, v, rfl, sz1, fun q hq => ⟨a2, q, ys, [v], rfl, rfl, SqT.of (upd_old ha2 hq), SqT.of upd_same, hyl, fun hy => ⟨.ref D, rfl, 1, rfl, D, _, _, _, rfl, rfl, upd_old hD2 hq, ix_last (by simp), ?_⟩, fun _ z => absurd z (by simp), fun _ _ q2 hq2 => ⟨.ref D, rfl, 1, rfl, D, _, _, _, rfl, rfl, upd_old (upd_old hD2 hq) hq2, ix_last (by simp), ?_⟩⟩⟩
                · subst hy
                  rw [set_last]
                  exact pinvA hD0 hE2 hT2 (Same.new (Same.refl H2) hq) hD2 hf2 hr2 hv (by rw [upd_same]; rfl) hb2 hrun' hwt2
                · rw [set_last]
                  exact pinvA hD0 hE2 hT2 (Same.new (Same.new (Same.refl H2) hq) hq2) hD2 hf2 hr2 hv upd_same hb2 hrun' hwt2
            · cases r with
              | cons p2 r2 =>
                refine absurd (decide_eq_true ?_) e
                rw [List.length_reverse, hl2]
                show (0 : Int) < ((r2.length + 1 : Nat) : Int)
                omega
              | nil =>
                have hs2 : st' = [] ∧ fd' = some (.jet) := Prod.mk.inj hs'
                obtain ⟨rfl, rfl⟩ := hs2
                refine ⟨v, rfl, ev_kids hv fun b' xs' hb' hk' => ⟨_, _, rfl, ?_⟩⟩
                exact ⟨D, b', ws, [], some (.jet), _, _, _, rfl, hD0, hE2, hT2, hD2, hp2, ⟨xs', hb', fun t' z => by cases z; exact hk'⟩, hrun', hwt2⟩
        · exact absurd (by decide +kernel) e
    · obtain ⟨D, b, qs, st, fd, v4, v5, v6, rfl, hD0, hE, hT', hDq, hp', ⟨bx, hbx, hfd⟩, hrun, hwt⟩ := hP
      rw [hcz, List.drop_length] at hrun
      have e : (st, fd) = ([], some u.canon) := Option.some.inj hrun
      obtain ⟨rfl, rfl⟩ := Prod.mk.inj e
      exact ⟨.bl true, rfl, true, rfl, ite_f rfl ⟨.ref b, rfl, k b bx H' hE hT' hbx (hfd _ rfl)⟩⟩
def sp_init_read (K : PySem.W.Frag) : Sp := fun vs H Q _ => ∃ x dx u H0, vs = [.ref x, .str (tx u), .non] ∧ u.size ≤ 5000 ∧ u.dep ≤ 120 ∧ H0 x = none ∧ Same H0 H ∧ H x = some (.ins (cF K) dx []) ∧ LamX.Tabs (TT K) H ∧
  ∀ H', LamX.ExtN H0 H' → LamX.Tabs (TT K) H' → Ftn (cF K) H' u.canon (.ref x) → Q .non H'
theorem ok_Fountain___init___read  (T : Txt K mg base) : MakeD P w K mg base CX0 8 "Fountain" (cF K) ["self", "text", "branches"] [.non] (sp_init_read K) := by
  refine T.init.ok 0 (by decide) sc_Fountain___init__ (fun vs H Q E h => ?_) (fun f cdv A outer s H vs Q E hr h => ?_)
  · obtain ⟨x, dx, u, H0, rfl, _⟩ := h
    rfl
  · obtain ⟨x, dx, u, H0, rfl, h5, h12, hx0, s0, hx, hT, k⟩ := h
    have hcs := canon_size u
    have hcd := canon_dep u
    have hks := kids_size u.canon
    have hcc := canon_can u
    have nx : ∀ {a : Addr} {o : HO}, H0 a = some o → a ≠ x := fun e => ne_of_none e hx0
    refine ⟨_, (pss_cons (ps_set (i := 3) sc_Fountain___init__.nd rfl (by first | exact Or.inl rfl | exact Or.inr rfl) (pe_cmpR op_isN (pv 2) pe_non (nomark _)))
      (pss_cons (ps_via (ps_if (pt_val (pv 3))
        (pss_cons (ps_set (i := 2) sc_Fountain___init__.nd rfl (by first | exact Or.inl rfl | exact Or.inr rfl) (pe_callD (ok_parsed T) (hr.mono (by decide)) (by rfl) pass0 (pa_cons (pv 1) pa_nil)))
        (pss_one (ps_set (i := 1) sc_Fountain___init__.nd rfl (by first | exact Or.inl rfl | exact Or.inr rfl) (pe_via (pe_ifExp (pt_cmpR op_eq (pv 1) (pe_gstr rfl T.gJET_TEXT) (nomark _)) (pe_gstr rfl T.gJET_TEXT) (pe_propD T.cls.c (ok_Fountain_text T) (hr.mono (by decide)) pass0 (pe_callD (ok_made T) (hr.mono (by decide)) (by rfl) pass0 (pa_cons (pv 2) pa_nil)) rfl))))))
        pss_nil))
      (pss_cons (ps_fld (pv 0) (pv 1) (by rfl))
      (pss_cons (ps_fld (pv 0) (pv 2) (by rfl))
      (pss_cons (ps_fld (pv 0) (pe_via (pe_ifExp (pt_cmpR op_eq (pv 1) (pe_gstr rfl T.gJET_TEXT) (nomark _)) (pe_tup (pa_cons pe_int (pa_cons pe_int (pa_cons pe_int (pa_cons pe_int (pa_cons pe_int pa_nil)))))) (pe_callD (ok_basin_numbers T) (hr.mono (by decide)) (by rfl) pass0 (pa_cons (pv 2) pa_nil)))) (by rfl))
      (pss_one (ps_via (ps_if (pt_val (pv 3))
        (pss_one (ps_expr (pe_callD (ok_check_numbers T) (hr.mono (by decide)) (by rfl) pass0 (pa_cons (pe_fld (pv 0) rfl) pa_nil))))
        pss_nil)))))))), ?_⟩
    refine ⟨.non, rfl, rfl, fun σ' H1 => ∃ b xs, σ' = [some (.ref x), some (.str (tx u.canon)), some (.ref b), some (.bl true)] ∧ LamX.ExtN H H1 ∧ LamX.Tabs (TT K) H1 ∧ H1 x = some (.ins (cF K) dx []) ∧ H1 b = some (.tup xs) ∧ FtnL (cF K) H1 u.canon.kids xs,
      ⟨_, rfl, _, rfl, ite_t rfl ⟨.str (tx u), rfl, u, rfl, by omega, hT, fun b xs H1 hE hT1 hb hk => ?_⟩⟩, fun σ' H1 hR => ?_⟩
    · refine ⟨fun v H2 => v = .str (tx u.canon) ∧ LamX.ExtN H1 H2 ∧ LamX.Tabs (TT K) H2, ⟨.str (tx u), rfl, rfl, _, rfl, ite2 (fun e => ?_) fun e => ?_⟩, fun v H2 ⟨ev, e2, hT2⟩ => ?_⟩
      · have et : u = .jet := tx_inj ((V.str.inj (of_decide_eq_true e)).trans tx_jet.symm)
        subst et
        exact ⟨by rw [← tx_jet]; rfl, LamX.ExtN.refl _, hT1⟩
      · refine ⟨.ref b, rfl, b, xs, u.canon.kids, rfl, .inr (SqT.of hb), hk, by omega, hT1, fun w H2 e1 e2 e3 => ev_prop e3 ⟨?_, e1, e2⟩⟩
        cases u with
        | jet => exact absurd (decide_eq_true (by rw [tx_jet])) e
        | bas l =>
          have ec : (JW.T.bas l).canon = .bas (sortT (l.map JW.T.canon)) := canon_bas l
          rw [ec]
          show V.str (tx (.bas (sortT (sortT (l.map JW.T.canon))))) = _
          rw [sortT_of (sortT_srt _)]
      · subst ev
        exact ⟨b, xs, rfl, hE.trans e2, hT2, e2 _ _ (hE _ _ hx fun ps z => by cases z) (fun ps z => by cases z), e2 _ _ hb (fun ps z => by cases z), hk.ext e2⟩
    obtain ⟨b, xs, rfl, hE1, hT1, hx1, hb1, hk1⟩ := hR
    have nbx : b ≠ x := ne_of hb1 hx1 fun z => by cases z
    have hl1 := hk1.len
    have hll := length_le u.canon.kids
    have hsl := sizeLine_eq
    have hD2 : ∀ o1 o2 : HO, ExtD x H1 (upd (upd H1 x o1) x o2) := fun o1 o2 => ExtD.put (ExtD.put (ExtD.refl x H1))
    have tT2 : ∀ (d1 d2 : Addr) (f1 f2 : List (Str × V)), LamX.Tabs (TT K) (upd (upd H1 x (.ins (cF K) d1 f1)) x (.ins (cF K) d2 f2)) := fun d1 d2 f1 f2 => Tabs.putI (Tabs.putI hT1 hx1) upd_same
    refine ⟨.str (tx u.canon), rfl, .ref x, rfl, x, _, dx, _, rfl, hx1, T.cls.c, T.cls.nw, by decide, .ref b, rfl, .ref x, rfl, x, _, dx, _, rfl, upd_same, T.cls.c, T.cls.nb, fl_l1,
      fun v H' => ∃ n, v = .ref n ∧ ExtD x H1 H' ∧ LamX.Tabs (TT K) H' ∧ H' x = some (.ins (cF K) dx (putF "branches" (.ref b) (putF "written" (.str (tx u.canon)) []))) ∧ H' n = some (.tup (nums u.canon)), ⟨_, rfl, rfl, _, rfl, ite2 (fun e => ?_) fun e => ?_⟩, fun v H' hv => ?_⟩
    · have et : u.canon = .jet := tx_inj ((V.str.inj (of_decide_eq_true e)).trans tx_jet.symm)
      refine ⟨sz5, fun p hp => ⟨p, rfl, ExtD.trans (hD2 _ _) (.of (.of (Same.new (Same.refl _) hp))), Tabs.same (tT2 _ _ _ _) (Same.new (Same.refl _) hp), upd_old upd_same hp, ?_⟩⟩
      rw [upd_same, et]
      rfl
    · cases hu : u.canon with
      | jet => exact absurd (decide_eq_true (by rw [hu, tx_jet])) e
      | bas l =>
        rw [hu] at hk1 hl1 hll hks hcs
        refine ⟨.ref b, rfl, b, xs, l, rfl, hD2 _ _ _ _ nbx hb1 (fun ps z => by cases z), ftnL_extX hx1 (by decide) (hD2 _ _) _ _ hk1, ?_, fun H' p s e => ⟨p, rfl, ExtD.trans (hD2 _ _) (.of (.of s)), Tabs.same (tT2 _ _ _ _) s, s _ _ upd_same, e⟩⟩
        have h1 : xs.length = l.length := hl1
        have h2 : l.length ≤ sizeL l := hll
        have h3 : sizeL l ≤ (JW.T.bas l).size := hks
        omega
    · obtain ⟨n, rfl, eD, tT, e1, e2⟩ := hv
      have nn : n ≠ x := ne_of e2 e1 fun z => by cases z
      refine ⟨.ref x, rfl, x, _, dx, _, rfl, e1, T.cls.c, T.cls.nn, fl_l2, fun _ HF => HF = upd H' x (.ins (cF K) dx (putF "numbers" (.ref n) (putF "branches" (.ref b) (putF "written" (.str (tx u.canon)) [])))), ⟨.bl true, rfl, _, rfl, ite_t rfl ⟨.ref x, rfl, x, _, dx, _, _, rfl, upd_same, T.cls.c, T.cls.nn, by rw [fl_put]; exact fl_n, n, u.canon, rfl, by rw [upd_ne nn]; exact e2, by omega, by omega, rfl⟩⟩, fun _ HF eF => ?_⟩
      subst eF
      refine k _ (fun a o e nt => ?_) (Tabs.putI tT e1) (ftn_iff.mpr ⟨x, dx, b, n, xs, rfl, by rw [upd_same, fl_put], ?_, by rw [upd_ne nn]; exact e2, ftnL_extX hx1 (by decide) (ExtD.put eD) _ _ hk1⟩)
      · rw [upd_ne (nx e)]
        exact eD _ _ (nx e) (hE1 _ _ (s0 _ _ e) nt) nt
      · rw [upd_ne nbx]
        exact eD _ _ nbx hb1 (fun ps z => by cases z)
def aspRead : ASp
  | [.str z], L, Q, _ => ∃ u : T, z = tx u ∧ u.size ≤ 5000 ∧ u.dep ≤ 120 ∧ Q (.tree u.canon) L
  | _, _, _, _ => False
theorem mkA_read {K : PySem.W.Frag} {scr : Option (Addr × List Int)} : ∀ ds vs H L R Q, RepL (cA K scr) H ds vs → Good (cA K scr) L H → aspRead ds L R anyX → Pq (cA K scr) H R Q → ∀ x dx, H x = none → H dx = none → dx ≠ x →
    sp_init_read K (.ref x :: (vs ++ [.non])) (upd (upd H dx (.own x)) x (.ins (cF K) dx [])) (fun v H2 => v = .non ∧ Q (.ref x) H2) (fun _ _ _ => True) := fun ds vs H L R Q r g h pq x dx hx hdx ne => by
  unfold aspRead at h
  split at h
  · obtain ⟨u, rfl, h1, h2, h⟩ := h
    obtain ⟨v, rfl, r1⟩ := repL_one r
    cases rep_str.mp r1
    have s : Same H (upd (upd H dx (.own x)) x (.ins (cF K) dx [])) := Same.new (Same.new (Same.refl H) hdx) (by rw [upd_ne (Ne.symm ne)]; exact hx)
    exact ⟨x, dx, u, H, rfl, h1, h2, hx, s, upd_same, Tabs.same g.tabs s, fun H' e' T' hf => ⟨rfl, pq _ _ _ H' h (.extN e') (g.extN T' e') (rep_tree.mpr hf)⟩⟩
  · exact h.elim

structure Prs (S : List JW.T) : Prop where
  few : S.length ≤ 31
  can : ∀ p ∈ S, Can p
  sz : ∀ p ∈ S, p.size ≤ 5000
  dp : ∀ p ∈ S, p.dep ≤ 120
def asp_joined (n : Nat) : ASp
  | [.str s, a, b], L, Q, _ => ∃ (S : List JW.T) (k : Nat) (x y : Nd), Prs S ∧ k < n ∧ k ≤ 20 ∧ Nd.Wf S k x ∧ Nd.Wf S k y ∧ a = x.d ∧ b = y.d ∧ Q (Nd.jn s (k + 1) x y).d L
  | _, _, _, _ => False
theorem stepA_joined  (T : Txt K mg base) {scr : Option (Addr × List Int)} (n : Nat) (ih : CallD P w K mg base CX0 (100 + n) "joined" ["sign", "one", "other"] [] (spA (cA K scr) (asp_joined n))) : CallD P w K mg base CX0 (100 + n + 1) "joined" ["sign", "one", "other"] [] (spA (cA K scr) (asp_joined (n + 1))) := by
  refine T.d_joined.okA sc_joined ?len (fun f cdv A outer s H E hr => (as_cons (as_set (i := 3) sc_joined.nd rfl (by first | exact Or.inl rfl | exact Or.inr rfl) (ae_su (own := [("prime", 6), ("node", 7)]) (own' := [("prime", 6), ("node", 7)]) (by rfl) sc_joined.nd (by rfl) T.n_sorted (ai_tup (ae_ix (av 1) ae_int (fun _ _ => rfl))) (blkOk_by (by kernel_rfl)) (tgOk_tup (js := [6, 7]) rfl (by decide)) (fun _ _ _ _ _ => pg_tupK (K := K) rfl rfl (pgs_cons (pg_name (i := 6) sc_joined.nd rfl (by first | exact Or.inl rfl | exact Or.inr rfl)) (pgs_cons (pg_name (i := 7) sc_joined.nd rfl (by first | exact Or.inl rfl | exact Or.inr rfl)) pgs_nil))) (fun _ _ _ _ _ => (ae_propG (fun t => .str (tx t)) (fun _ _ => rep_str.mpr rfl) T.cls.c (ok_Fountain_text T) (hr.mono (by omega)) (av 6) rfl)) (ai_tup (ae_ix (av 2) ae_int (fun _ _ => rfl))) (blkOk_by (by kernel_rfl)) (tgOk_tup (js := [6, 7]) rfl (by decide)) (fun _ _ _ _ _ => pg_tupK (K := K) rfl rfl (pgs_cons (pg_name (i := 6) sc_joined.nd rfl (by first | exact Or.inl rfl | exact Or.inr rfl)) (pgs_cons (pg_name (i := 7) sc_joined.nd rfl (by first | exact Or.inl rfl | exact Or.inr rfl)) pgs_nil))) (fun _ _ _ _ _ => (ae_propG (fun t => .str (tx t)) (fun _ _ => rep_str.mpr rfl) T.cls.c (ok_Fountain_text T) (hr.mono (by omega)) (av 6) rfl))))
      (as_cons (as_setLc (own := [("text", 8)]) (i := 4) (by rfl) sc_joined.nd rfl rfl (sw_true rfl rfl rfl (by decide +kernel)) (ai_list (av 3)) (blkOk_by (by kernel_rfl)) (tgOk_name (by decide)) (fun _ _ _ _ _ => pg_name (i := 8) sc_joined.nd rfl (by first | exact Or.inl rfl | exact Or.inr rfl)) (fun _ _ _ _ _ => (ae_make (dd := []) (asp := aspRead) (ok_Fountain___init___read T) (hr.mono (by omega)) (by rfl) (aa_cons (av 8) aa_nil) mkA_read)))
      (as_cons (as_setLc (own := [("prime", 6)]) (i := 5) (by rfl) sc_joined.nd rfl rfl (sw_true rfl rfl rfl (by decide +kernel)) (ai_list (av 4)) (blkOk_by (by kernel_rfl)) (tgOk_name (by decide)) (fun _ _ _ _ _ => pg_name (i := 6) sc_joined.nd rfl (by first | exact Or.inl rfl | exact Or.inr rfl)) (fun _ _ _ _ _ => (ae_tup (aa_cons (av 6) (aa_cons (ae_call ih (hr.mono (by omega)) (by rfl) (aa_cons (av 0) (aa_cons (ae_call (okA_below T) (hr.mono (by omega)) (by rfl) (aa_cons (av 1) (aa_cons (av 6) aa_nil))) (aa_cons (ae_call (okA_below T) (hr.mono (by omega)) (by rfl) (aa_cons (av 2) (aa_cons (av 6) aa_nil))) aa_nil)))) aa_nil)))))
      (as_one (as_ret (ae_call (okA_trimmed T) (hr.mono (by omega)) (by rfl) (aa_cons (ae_call (okA_decided T) (hr.mono (by omega)) (by rfl) (aa_cons (av 0) (aa_cons (ae_ix (av 1) ae_int (fun _ _ => rfl)) (aa_cons (ae_ix (av 2) ae_int (fun _ _ => rfl)) aa_nil)))) (aa_cons (ae_call (okA_decided T) (hr.mono (by omega)) (by rfl) (aa_cons (av 0) (aa_cons (ae_ix (av 1) ae_int (fun _ _ => rfl)) (aa_cons (ae_ix (av 2) ae_int (fun _ _ => rfl)) aa_nil)))) (aa_cons (av 5) aa_nil)))))))))) ?vc
  case len =>
    intro ds L R RX h
    unfold asp_joined at h
    split at h <;> first | rfl | exact h.elim
  case vc =>
    intro ds L R RX h
    unfold asp_joined at h
    split at h
    rotate_left
    · exact h.elim
    rename_i s a b
    obtain ⟨S, k, x, y, hS, hkn, hk, hx, hy, rfl, rfl, h⟩ := h
    have hsl := sizeLine_eq
    have hf := hS.few
    have lx := Nd.wf_len hx
    have ly := Nd.wf_len hy
    have hb := (Nd.both_nd x y).2
    have bS : ∀ p ∈ Nd.both x y, p ∈ S := fun p hp => ((hb p).mp hp).elim (fun z => (Nd.wf_names hx).2 p z) fun z => (Nd.wf_names hy).2 p z
    have lb : (Nd.both x y).length ≤ 31 := Nat.le_trans (Nd.nd_len _ S (Nd.both_nd x y).1 bS) hf
    rw [Nd.d_eq x, Nd.d_eq y]
    refine ⟨_, Nd.at3_2, ?_⟩
    refine compS_map (fun q : JW.T × Nd => D.tup [.tree q.1, q.2.d]) (fun q => tx q.1) trivial x.br [] (by show 0 + _ ≤ _; omega) (fun q hq k hk => ⟨rfl, rfl, hk⟩) ?_
    refine ⟨_, Nd.at3_2, ?_⟩
    refine compS_map (fun q : JW.T × Nd => D.tup [.tree q.1, q.2.d]) (fun q => tx q.1) trivial y.br [] (by show 0 + _ ≤ _; omega) (fun q hq k hk => ⟨rfl, rfl, hk⟩) ?_
    have e1 := STx.fold_len (x.br.map fun q => tx q.1) []
    have e2 := STx.fold_len (y.br.map fun q => tx q.1) []
    rw [List.length_map] at e1 e2
    refine ⟨by show _ + _ < 63; simp only [List.length_nil] at e1 e2; omega, fun ys P hp hs hP => ?_⟩
    have ey := Nd.texts_eq hp hs
    subst ey
    rw [List.map_map]
    refine ⟨_, sput_same, fun P2 hP2 => ?_⟩
    refine comp_mapA (fun u : JW.T => D.str (tx u)) D.tree (fun l => sput_old sput_same hP2) (Nd.both x y) [] (by show 0 + _ ≤ _; omega) (fun u hu l kk hk => ?_) ?_
    · have hu2 := bS u hu
      refine ⟨rfl, u, rfl, hS.sz u hu2, hS.dp u hu2, ?_⟩
      rw [can_canon u (hS.can u hu2)]
      exact hk
    refine ⟨_, sput_same, fun P3 hP3 => ?_⟩
    refine comp_mapA D.tree (fun p => D.tup [.tree p, (Nd.jn s k (x.sub p) (y.sub p)).d]) (fun l => sput_old sput_same hP3) (Nd.both x y) [] (by show 0 + _ ≤ _; omega) (fun u hu l kk hk2 => ?_) ?_
    · cases k with
      | zero =>
        exfalso
        have e1 : x.br = [] := hx
        have e2 : y.br = [] := hy
        have z := (hb u).mp hu
        rw [e1, e2] at z
        simp at z
      | succ j =>
        exact ⟨rfl, x, (Nd.d_eq x).symm, y, (Nd.d_eq y).symm, ⟨S, j, x.sub u, y.sub u, hS, by omega, by omega, Nd.wf_sub hx u, Nd.wf_sub hy u, rfl, rfl, by show (2 : Nat) ≤ sizeLine; omega, hk2⟩⟩
    refine ⟨_, Nd.at3_0, _, Nd.at3_0, _, Nd.at3_1, _, Nd.at3_1, ?_⟩
    refine ⟨(Nd.both x y).map fun p => (p, Nd.jn s k (x.sub p) (y.sub p)), ?_, by rw [List.length_map]; omega, fun q hq => ?_, ?_⟩
    · rw [List.map_map]
      exact sput_same
    · obtain ⟨p, hp, e⟩ := List.mem_map.mp hq
      rw [← e]
      cases k with
      | zero =>
        exfalso
        have e1 : x.br = [] := hx
        have e2 : y.br = [] := hy
        have z := (hb p).mp hp
        rw [e1, e2] at z
        simp at z
      | succ j =>
        have := Nd.dep_wf j (Nd.wf_jn s j (Nd.wf_sub hx p) (Nd.wf_sub hy p))
        show depD (Nd.jn s (j + 1) (x.sub p) (y.sub p)).d ≤ 71
        omega
    · exact ret_sub h (((SubS.refl L).new hP).new hP2 |>.new hP3)
theorem okA_joined  (T : Txt K mg base) {scr : Option (Addr × List Int)} (n : Nat) : CallD P w K mg base CX0 (100 + n) "joined" ["sign", "one", "other"] [] (spA (cA K scr) (asp_joined n)) := callD_rec (sp := fun n => spA (cA K scr) (asp_joined n)) T.d_joined (fun vs H Q E ⟨ds, L, R, RX, _, _, h, _⟩ => by
    unfold asp_joined at h
    split at h
    · obtain ⟨S, k, x, y, _, hk, _⟩ := h
      exact absurd hk (Nat.not_lt_zero _)
    · exact h.elim
    ) (stepA_joined T) n
def asp_Kind_of (K : PySem.W.Frag) : ASp
  | [.ref C, d], L, Q, RX => ∃ ts : List JW.T, C = He.ga K "Kind" ∧ (d = .tup (ts.map .tree) ∨ ∃ p, d = .ref p ∧ L p = some (.lst (ts.map .tree))) ∧ ((∃ t ∈ ts, t.jts = 0) → RX "Closed" [] L) ∧
    ((∀ t ∈ ts, 0 < t.jts) → ∃ S : List JW.T, Prs S ∧ (∀ t ∈ ts, Op t ∧ t.dep < 121 ∧ t.size ≤ 1048576 ∧ t.word.length ≤ 20 ∧ ∀ p ∈ t.word, p ∈ S) ∧ ∀ p L', SubS L L' → L' p = none → Q (.ref p) (sput L' p (KdM K (ofN ts))))
  | _, _, _, _ => False
theorem okA_Kind_of  (T : Txt K mg base) {scr : Option (Addr × List Int)} : CmD P w K mg base (L2.CX P w) 151 (He.ga K "Kind") "of" ["cls", "parts"] (spA (cA K scr) (asp_Kind_of K)) := by
  refine T.c_Kind_of.okAX sc_Kind_of ?len (fun f cdv A outer s H E RX hE hr => (as_cons (as_for (passes_of rfl) rfl (ai_sq (av 1)) (ag_name (i := 2) sc_Kind_of.nd rfl (by first | exact Or.inl rfl | exact Or.inr rfl))
        (as_one (as_expr (ae_callStX (okA_need_open_x T) (hr.mono (by decide)) (by rfl) (passE rfl rfl rfl rfl) hE (aa_cons (av 2) aa_nil)))))
      (as_cons (as_set (i := 3) sc_Kind_of.nd rfl (by first | exact Or.inl rfl | exact Or.inr rfl) (ae_call (okA_uniform T) (hr.mono (by decide)) (by rfl) (aa_cons ae_bl aa_nil)))
      (as_cons (as_for (passes_of rfl) rfl (ai_sq (av 1)) (ag_name (i := 2) sc_Kind_of.nd rfl (by first | exact Or.inl rfl | exact Or.inr rfl))
        (as_one (as_set (i := 3) sc_Kind_of.nd rfl (by first | exact Or.inl rfl | exact Or.inr rfl) (ae_call (okA_joined T 21) (hr.mono (by decide)) (by rfl) (aa_cons ae_str (aa_cons (av 3) (aa_cons (ae_call (okA_ended T) (hr.mono (by decide)) (by rfl) (aa_cons (ae_tup (aa_cons ae_bl (aa_cons ae_bl (aa_cons (ae_tup aa_nil) aa_nil)))) (aa_cons (av 2) aa_nil))) aa_nil)))))))
      (as_one (as_ret (ae_makeMV (okA_Kind___init__ T) (hr.mono (by decide)) (ni_Kind T) (av 0) (aa_cons (av 3) aa_nil)))))))) ?vc
  case len =>
    intro ds L R RX h
    unfold asp_Kind_of at h
    split at h <;> first | rfl | exact h.elim
  case vc =>
    intro ds L R RX h
    unfold asp_Kind_of at h
    split at h
    · rename_i C d
      obtain ⟨ts, rfl, hd, hE, hO⟩ := h
      have hsl := sizeLine_eq
      have sq : ∀ (R : List D → (Store → Prop) → Prop), (∀ G : Store → Prop, G L → R (ts.map D.tree) G) → sqE L d R := fun R k => by
        unfold sqE
        rcases hd with rfl | ⟨p, rfl, e⟩
        · exact .inl ⟨_, rfl, k yes trivial⟩
        · exact .inr ⟨p, _, rfl, e, k (lstAt p _) e⟩
      change sqE L d _
      refine sq _ fun G hG => ?_
      refine loop_map D.tree ts (fun pre env L' => L' = L ∧ (∀ t ∈ pre, 0 < t.jts) ∧ ∃ x y : Option D, env = [some (.ref (He.ga K "Kind")), some d, x, y]) (fun _ _ _ h => by rw [h.1]; exact hG) ?step1 ?fin1 _ _ ⟨rfl, fun _ h => absurd h List.not_mem_nil, none, none, rfl⟩
      case step1 =>
        rintro pre t rest nn e kn env L' ⟨rfl, hp, x, y, rfl⟩
        refine ⟨by show (1 : Nat) ≤ sizeLine; omega, [t], rfl, fun ⟨u, hu, h0⟩ => hE ⟨t, by rw [e]; simp, by rw [List.mem_singleton.mp hu] at h0; exact h0⟩, fun hop => ?_⟩
        refine kn _ _ ⟨rfl, fun u hu => ?_, _, _, rfl⟩
        rcases List.mem_append.mp hu with h1 | h1
        · exact hp u h1
        · rw [List.mem_singleton.mp h1]
          exact hop t List.mem_cons_self
      case fin1 =>
        rintro env L' ⟨rfl, hp, x, y, rfl⟩
        obtain ⟨S, hS, hT, h⟩ := hO hp
        change sqE L' d _
        refine sq _ fun G hG => ?_
        refine loop_map D.tree ts (fun pre env L'' => L'' = L' ∧ ∃ x : Option D, env = [some (.ref (He.ga K "Kind")), some d, x, some (ofN pre).d]) (fun _ _ _ h => by rw [h.1]; exact hG) ?step2 ?fin2 _ _ ⟨rfl, _, rfl⟩
        case fin2 =>
          rintro env L'' ⟨rfl, x, rfl⟩
          refine ⟨rfl, fun p hp => ⟨sput_same, rfl, ?_⟩⟩
          rw [sput_sput]
          exact ret_of (h p L'' (SubS.refl _) hp)
        case step2 =>
          rintro pre t rest nn e kn env L'' ⟨rfl, x, rfl⟩
          have hm : t ∈ ts := by rw [e]; simp
          obtain ⟨t1, t2, t3, t4, t5⟩ := hT t hm
          have hpre : ∀ u ∈ pre, u.word.length ≤ 20 ∧ ∀ p ∈ u.word, p ∈ S := fun u hu => by
            have := hT u (by rw [e]; exact List.mem_append_left _ hu)
            exact ⟨this.2.2.2.1, this.2.2.2.2⟩
          have w0 : Nd.Wf S 0 (Nd.mk true false []) := rfl
          refine ⟨Nat.zero_le _, by show (3 : Nat) ≤ sizeLine; omega, S, 0, Nd.mk true false [], by rw [Nd.d_eq]; rfl, w0, t5, by omega, t1, t2, t3, ?_⟩
          refine ⟨S, 20, ofN pre, (Nd.mk true false []).endN t.word, hS, by decide, by decide, wf_ofN (Nat.le_refl 20) pre (Nd.wf_uni S false 20) hpre, (Nd.wf_endN t.word w0 t5).mono (by omega), rfl, rfl, ?_⟩
          refine kn _ _ ⟨rfl, some (.tree t), ?_⟩
          have e2 : ofN (pre ++ [t]) = Nd.jn "|" 21 (ofN pre) ((Nd.mk true false []).endN t.word) := by
            unfold ofN
            rw [List.foldl_append]
            rfl
          rw [e2]
          rfl
    · exact h.elim
theorem two_Kind_Mult (T : Txt K mg base) : Two K (He.ga K "Kind") (cF K) (PySem.Operator.Mult).info.2 where
  ne := T.ny_Kind
  sf := T.o_Kind.sf
  sf' := T.cls.sf
  r := ⟨none, T.xk_mul, .inl rfl⟩
  m' := by
    obtain ⟨f, fd, h, _⟩ := T.m___mul__.ex
    exact ⟨f, h.at_⟩
  r' := ⟨none, T.xf_mul, .inl rfl⟩
  sub := T.xs_Kind
def asp_Kind___mul__ (K : PySem.W.Frag) : ASp
  | [.ref p, .tree t], L, Q, RX => ∃ n : Nd, L p = some (KdM K n) ∧ (t.jts = 0 → RX "Closed" [] L) ∧ (0 < t.jts → ∃ (S : List JW.T) (k : Nat), Nd.Wf S k n ∧ (∀ p ∈ t.word, p ∈ S) ∧ k + t.word.length ≤ 22 ∧ Op t ∧ t.dep < 121 ∧ t.size ≤ 1048576 ∧ ∀ r, L r = none → Q (.ref r) (sput L r (KdM K (n.endN t.word))))
  | _, _, _, _ => False
theorem okA_Kind___mul__  (T : Txt K mg base) {scr : Option (Addr × List Int)} : MethD P w K mg base (L2.CX P w) 151 (He.ga K "Kind") "__mul__" ["self", "other"] [] (spA (cA K scr) (asp_Kind___mul__ K)) := by
  refine T.m_Kind___mul__.okAX sc_Kind___mul__ ?len (fun f cdv A outer s H E RX hE hr => (as_cons (as_if (at_not (at_bl (ae_b (acb_isiA (K := K) rfl T.cls) (by rfl) T.n_isinstance (by decide +kernel) (aa_cons (av 1) (aa_cons (ae_c (d := .ref (cF K)) (pe_glob (v := .ref (cF K)) rfl T.cls.g rfl) (fun _ => rep_ref.mpr rfl)) aa_nil)))))
        ass_never
        as_nil)
      (as_cons (as_expr (ae_callStX (okA_need_open_x T) (hr.mono (by decide)) (by rfl) (passE rfl rfl rfl rfl) hE (aa_cons (av 1) aa_nil)))
      (as_one (as_ret (ae_makeM (okA_Kind___init__ T) (hr.mono (by decide)) (by rfl) (ni_Kind T) (aa_cons (ae_call (okA_ended T) (hr.mono (by decide)) (by rfl) (aa_cons (ae_fldM (K := K) rfl (av 0) rfl) (aa_cons (av 1) aa_nil))) aa_nil))))))) ?vc
  case len =>
    intro ds L R RX h
    unfold asp_Kind___mul__ at h
    split at h <;> first | rfl | exact h.elim
  case vc =>
    intro ds L R RX h
    unfold asp_Kind___mul__ at h
    split at h
    · rename_i p t
      obtain ⟨n, hp, hE, hO⟩ := h
      have hsl := sizeLine_eq
      refine ⟨rfl, ?_⟩
      refine ⟨by show (1 : Nat) ≤ sizeLine; omega, [t], rfl, fun ⟨u, hu, h0⟩ => hE (by rw [List.mem_singleton.mp hu] at h0; exact h0), fun hop => ?_⟩
      obtain ⟨S, k, h1, h2, h3, h4, h5, h6, h⟩ := hO (hop t List.mem_cons_self)
      refine ⟨p, _, _, _, _, rfl, hp, T.o_Kind.c, T.na_Kind_node, look_nd, S, k, n, rfl, h1, h2, h3, h4, h5, h6, fun r hr => ⟨sput_same, rfl, ?_⟩⟩
      rw [sput_sput]
      exact ret_of (h r hr)
    · exact h.elim
def asp_started : ASp
  | [a, .tree t], L, Q, _ => ∃ n : Nd, a = n.d ∧ Op t ∧ t.dep < 121 ∧ t.size ≤ 1048576 ∧ Q (n.startN t.word).d L
  | _, _, _, _ => False
theorem okA_started  (T : Txt K mg base) {scr : Option (Addr × List Int)} : CallD P w K mg base CX0 141 "started" ["node", "fountain"] [] (spA (cA K scr) (asp_started)) := by
  refine T.d_started.okA sc_started ?len (fun f cdv A outer s H E hr => (as_cons (as_for PassesOwn.never rfl (ai_tup (ae_revT (ae_call (okA_word_of T) (hr.mono (by decide)) (by rfl) (aa_cons (av 1) aa_nil)))) (ag_name (i := 2) sc_started.nd rfl (by first | exact Or.inl rfl | exact Or.inr rfl))
        (as_one (as_set (i := 0) sc_started.nd rfl (by first | exact Or.inl rfl | exact Or.inr rfl) (ae_call (okA_below T) (hr.mono (by decide)) (by rfl) (aa_cons (av 0) (aa_cons (av 2) aa_nil))))))
      (as_one (as_ret (av 0))))) ?vc
  case len =>
    intro ds L R RX h
    unfold asp_started at h
    split at h <;> first | rfl | exact h.elim
  case vc =>
    intro ds L R RX h
    unfold asp_started at h
    split at h
    · rename_i a t
      obtain ⟨n, rfl, ho, hd, hz, h⟩ := h
      have hsl := sizeLine_eq
      refine ⟨ho, hd, hz, ?_⟩
      have em : (t.word.map D.tree).reverse = t.word.reverse.map D.tree := List.map_reverse.symm
      show loopA _ _ _ _ ((t.word.map D.tree).reverse) _ _
      rw [em]
      refine loop_map D.tree t.word.reverse (fun pre env L' => L' = L ∧ ∃ x : Option D, env = [some (pre.foldl Nd.sub n).d, some (.tree t), x]) (fun _ _ _ _ => trivial) ?step ?fin _ _ ⟨rfl, none, rfl⟩
      case fin =>
        rintro env L' ⟨rfl, x, rfl⟩
        exact ret_of h
      case step =>
        rintro pre p rest nn e kn env L' ⟨rfl, x, rfl⟩
        refine ⟨_, rfl, kn _ _ ⟨rfl, some (.tree p), ?_⟩⟩
        rw [List.foldl_append]
        rfl
    · exact h.elim
theorem two_Kind_FloorDiv (T : Txt K mg base) : Two K (He.ga K "Kind") (cF K) (PySem.Operator.FloorDiv).info.2 where
  ne := T.ny_Kind
  sf := T.o_Kind.sf
  sf' := T.cls.sf
  r := ⟨none, T.xk_floordiv, .inl rfl⟩
  m' := by
    obtain ⟨f, fd, h, _⟩ := T.m___floordiv__.ex
    exact ⟨f, h.at_⟩
  r' := ⟨none, T.xf_floordiv, .inl rfl⟩
  sub := T.xs_Kind
def asp_Kind___floordiv__ (K : PySem.W.Frag) : ASp
  | [.ref p, .tree t], L, Q, RX => ∃ n : Nd, L p = some (KdM K n) ∧ (t.jts = 0 → RX "Closed" [] L) ∧ (0 < t.jts → Op t ∧ t.dep < 121 ∧ t.size ≤ 1048576 ∧ ∀ r, L r = none → Q (.ref r) (sput L r (KdM K (n.startN t.word))))
  | _, _, _, _ => False
theorem okA_Kind___floordiv__  (T : Txt K mg base) {scr : Option (Addr × List Int)} : MethD P w K mg base (L2.CX P w) 151 (He.ga K "Kind") "__floordiv__" ["self", "other"] [] (spA (cA K scr) (asp_Kind___floordiv__ K)) := by
  refine T.m_Kind___floordiv__.okAX sc_Kind___floordiv__ ?len (fun f cdv A outer s H E RX hE hr => (as_cons (as_if (at_not (at_bl (ae_b (acb_isiA (K := K) rfl T.cls) (by rfl) T.n_isinstance (by decide +kernel) (aa_cons (av 1) (aa_cons (ae_c (d := .ref (cF K)) (pe_glob (v := .ref (cF K)) rfl T.cls.g rfl) (fun _ => rep_ref.mpr rfl)) aa_nil)))))
        ass_never
        as_nil)
      (as_cons (as_expr (ae_callStX (okA_need_open_x T) (hr.mono (by decide)) (by rfl) (passE rfl rfl rfl rfl) hE (aa_cons (av 1) aa_nil)))
      (as_one (as_ret (ae_makeM (okA_Kind___init__ T) (hr.mono (by decide)) (by rfl) (ni_Kind T) (aa_cons (ae_call (okA_started T) (hr.mono (by decide)) (by rfl) (aa_cons (ae_fldM (K := K) rfl (av 0) rfl) (aa_cons (av 1) aa_nil))) aa_nil))))))) ?vc
  case len =>
    intro ds L R RX h
    unfold asp_Kind___floordiv__ at h
    split at h <;> first | rfl | exact h.elim
  case vc =>
    intro ds L R RX h
    unfold asp_Kind___floordiv__ at h
    split at h
    · rename_i p t
      obtain ⟨n, hp, hE, hO⟩ := h
      have hsl := sizeLine_eq
      refine ⟨rfl, ?_⟩
      refine ⟨by show (1 : Nat) ≤ sizeLine; omega, [t], rfl, fun ⟨u, hu, h0⟩ => hE (by rw [List.mem_singleton.mp hu] at h0; exact h0), fun hop => ?_⟩
      obtain ⟨h4, h5, h6, h⟩ := hO (hop t List.mem_cons_self)
      refine ⟨p, _, _, _, _, rfl, hp, T.o_Kind.c, T.na_Kind_node, look_nd, n, rfl, h4, h5, h6, fun r hr => ⟨sput_same, rfl, ?_⟩⟩
      rw [sput_sput]
      exact ret_of (h r hr)
    · exact h.elim
def OpS (S : List JW.T) (t : JW.T) : Prop := Op t ∧ t.dep < 121 ∧ t.size ≤ 1048576 ∧ t.word.length ≤ 10 ∧ ∀ p ∈ t.word, p ∈ S
def refB (f : Int) (t : JW.T) (ts : List JW.T) : Bool := if f = 1 then ts.any fun u => decide (u.jts = 0) else decide (t.jts = 0)
def asp__law_refused (K : PySem.W.Frag) : ASp
  | [.int f, .ref k, .tree t, d], L, Q, _ => ∃ (S : List JW.T) (n : Nd) (ts : List JW.T), Prs S ∧ L k = some (KdM K n) ∧ Nd.Wf S 10 n ∧ (d = .tup (ts.map .tree) ∨ ∃ p, d = .ref p ∧ L p = some (.lst (ts.map .tree))) ∧
    (0 < t.jts → OpS S t) ∧ ((∀ u ∈ ts, 0 < u.jts) → ∀ u ∈ ts, OpS S u) ∧ Q (.bl (refB f t ts)) L
  | _, _, _, _ => False
theorem okA__law_refused  (T : Txt K mg base) {scr : Option (Addr × List Int)} : CallD P w K mg base CX0 161 "_law_refused" ["_law_form", "_law_kind", "_law_part", "_law_parts"] [] (spA (cA K scr) (asp__law_refused K)) := by
  refine T.d__law_refused.okA sc__law_refused ?len (fun f cdv A outer s H E hr => (as_cons (as_set (i := 4) sc__law_refused.nd rfl (by first | exact Or.inl rfl | exact Or.inr rfl) ae_bl)
      (as_cons (as_tryAs (K := K) rfl (i := 5) rfl rfl sc__law_refused.nd rfl rfl ⟨rfl, by decide, .inl T.e_JetError.g⟩ (fun pn xe RXe H1 hp po => (as_one (as_if (at_cmp (aop_eqG (okF_eq T) (hr.mono (by decide)) hr.units) (av 0) ae_int (nomark _))
          (as_one (as_expr (ae_cmP (by rfl) T.o_Kind.g (okA_Kind_ending T) (hr.mono (by decide)) hp (aa_cons (av 2) aa_nil))))
          (as_one (as_if (at_cmp (aop_eqG (okF_eq T) (hr.mono (by decide)) hr.units) (av 0) ae_int (nomark _))
            (as_one (as_expr (ae_cmP (by rfl) T.o_Kind.g (okA_Kind_of T) (hr.mono (by decide)) hp (aa_cons (av 3) aa_nil))))
            (as_one (as_if (at_cmp (aop_eqG (okF_eq T) (hr.mono (by decide)) hr.units) (av 0) ae_int (nomark _))
              (as_one (as_set (i := 1) sc__law_refused.nd rfl (by first | exact Or.inl rfl | exact Or.inr rfl) (ae_binMP (op := .Mult) (two_Kind_Mult T) (okA_Kind___mul__ T) (hr.mono (by decide)) hp (av 1) (av 2))))
              (as_one (as_set (i := 1) sc__law_refused.nd rfl (by first | exact Or.inl rfl | exact Or.inr rfl) (ae_binMP (op := .FloorDiv) (two_Kind_FloorDiv T) (okA_Kind___floordiv__ T) (hr.mono (by decide)) hp (av 1) (av 2)))))))))))
        (fun a oe cls d pn y fs H1 hz hfl he her => (as_one (as_set (i := 4) sc__law_refused.nd rfl (by first | exact Or.inl rfl | exact Or.inr rfl) (ae_and (ae_isX (K := K) (i := 5) rfl hz hfl he her (by rfl) T.n_isinstance rfl (by first | exact Or.inl rfl | exact Or.inr rfl) (by rfl) T.e_Closed.g) (ae_one (ae_not (ae_isXT (K := K) (i := 5) rfl hz hfl he her (by rfl) T.n_isinstance rfl (by first | exact Or.inl rfl | exact Or.inr rfl) (cls_cons (z := "Endless") (C := He.ga K "Endless") (by rfl) T.e_Endless.g (cls_cons (z := "NoDivision") (C := He.ga K "NoDivision") (by rfl) T.e_NoDivision.g cls_nil))))))))))
      (as_one (as_ret (av 4)))))) ?vc
  case len =>
    intro ds L R RX h
    unfold asp__law_refused at h
    split at h <;> first | rfl | exact h.elim
  case vc =>
    intro ds L R RX h
    unfold asp__law_refused at h
    split at h
    · rename_i f k t d
      obtain ⟨S, n, ts, hS, hk, hn, hd, ho, hos, h⟩ := h
      have hsl := sizeLine_eq
      have shut : ∀ {u : JW.T}, ¬ 0 < u.jts → u.jts = 0 := fun hu => by omega
      have hop : t.jts = 0 → refB f t ts = if f = 1 then ts.any fun u => decide (u.jts = 0) else true := fun z => by
        unfold refB
        rw [decide_eq_true z]
      have hyes : f = 1 → (∃ u ∈ ts, u.jts = 0) → R (.bl true) L := fun e ⟨u, hu, z⟩ => by
        have : refB f t ts = true := by
          unfold refB
          rw [if_pos e]
          exact List.any_eq_true.mpr ⟨u, hu, decide_eq_true z⟩
        rwa [this] at h
      have hno : f = 1 → (∀ u ∈ ts, 0 < u.jts) → R (.bl false) L := fun e hu => by
        have : refB f t ts = false := by
          unfold refB
          rw [if_pos e]
          exact List.any_eq_false.mpr fun u hm => by
            have := hu u hm
            simp only [decide_eq_true_eq]
            omega
        rwa [this] at h
      have tyes : f ≠ 1 → t.jts = 0 → R (.bl true) L := fun e z => by
        have : refB f t ts = true := by
          unfold refB
          rw [if_neg e, decide_eq_true z]
        rwa [this] at h
      have tno : f ≠ 1 → 0 < t.jts → R (.bl false) L := fun e z => by
        have : refB f t ts = false := by
          unfold refB
          rw [if_neg e, decide_eq_false (by omega)]
        rwa [this] at h
      have ie : ∀ {i : Int}, (false ^^ decide (f = i)) = true → f = i := fun h => by simpa using h
      have ne : ∀ {i : Int}, ¬ (false ^^ decide (f = i)) = true → f ≠ i := fun h => by simpa using h
      refine ite2 (fun e0 => ?_) (fun e0 => ?_)
      · have e := ie e0
        refine ⟨rfl, fun z => ⟨T.x_Closed_JetError, fun a => ⟨rfl, true, T.k_Closed_Closed, T.e_Closed.c.ex, ite_t (B := True) rfl ⟨rfl, by show (2 : Nat) ≤ 100; decide, false, kitAny_f T.k_Closed_Endless (kitAny_f T.k_Closed_NoDivision kitAny_nil), T.e_Closed.c.ex, ret_of (tyes (by omega) z)⟩⟩⟩, fun z => ?_⟩
        obtain ⟨o1, o2, o3, o4, o5⟩ := ho z
        exact ⟨o1, o2, o3, by omega, fun r hr => ret_sub (tno (by omega) z) ((SubS.refl L).new hr)⟩
      have e0 := ne e0
      refine ite2 (fun e1 => ?_) (fun e1 => ?_)
      · have e := ie e1
        refine ⟨ts, rfl, hd, fun z => ⟨T.x_Closed_JetError, fun a => ⟨rfl, true, T.k_Closed_Closed, T.e_Closed.c.ex, ite_t (B := True) rfl ⟨rfl, by show (2 : Nat) ≤ 100; decide, false, kitAny_f T.k_Closed_Endless (kitAny_f T.k_Closed_NoDivision kitAny_nil), T.e_Closed.c.ex, ret_of (hyes e z)⟩⟩⟩, fun z => ⟨S, hS, fun u hu => ?_, fun r L' sb hr => ret_sub (hno e z) (sb.new hr)⟩⟩
        obtain ⟨o1, o2, o3, o4, o5⟩ := hos z u hu
        exact ⟨o1, o2, o3, by omega, o5⟩
      have e1 := ne e1
      refine ite2 (fun e2 => ?_) (fun e2 => ?_)
      · refine ⟨⟨_, _, hk⟩, n, hk, fun z => ⟨T.x_Closed_JetError, fun a => ⟨rfl, true, T.k_Closed_Closed, T.e_Closed.c.ex, ite_t (B := True) rfl ⟨rfl, by show (2 : Nat) ≤ 100; decide, false, kitAny_f T.k_Closed_Endless (kitAny_f T.k_Closed_NoDivision kitAny_nil), T.e_Closed.c.ex, ret_of (tyes (by omega) z)⟩⟩⟩, fun z => ?_⟩
        obtain ⟨o1, o2, o3, o4, o5⟩ := ho z
        exact ⟨S, 10, hn, o5, by omega, o1, o2, o3, fun r hr => ⟨rfl, ret_sub (tno e1 z) ((SubS.refl L).new hr)⟩⟩
      · refine ⟨⟨_, _, hk⟩, n, hk, fun z => ⟨T.x_Closed_JetError, fun a => ⟨rfl, true, T.k_Closed_Closed, T.e_Closed.c.ex, ite_t (B := True) rfl ⟨rfl, by show (2 : Nat) ≤ 100; decide, false, kitAny_f T.k_Closed_Endless (kitAny_f T.k_Closed_NoDivision kitAny_nil), T.e_Closed.c.ex, ret_of (tyes (by omega) z)⟩⟩⟩, fun z => ?_⟩
        obtain ⟨o1, o2, o3, o4, o5⟩ := ho z
        exact ⟨o1, o2, o3, fun r hr => ⟨rfl, ret_sub (tno e1 z) ((SubS.refl L).new hr)⟩⟩
    · exact h.elim
def asp_Kind_none (K : PySem.W.Frag) : ASp
  | [.ref C], L, Q, _ => C = He.ga K "Kind" ∧ ∀ p, L p = none → Q (.ref p) (sput L p (KdM K (Nd.uni false)))
  | _, _, _, _ => False
theorem okA_Kind_none  (T : Txt K mg base) {scr : Option (Addr × List Int)} : CmD P w K mg base CX0 6 (He.ga K "Kind") "none" ["cls"] (spA (cA K scr) (asp_Kind_none K)) := by
  refine T.c_Kind_none.okA sc_Kind_none ?len (fun f cdv A outer s H E hr => (as_one (as_ret (ae_makeMV (okA_Kind___init__ T) (hr.mono (by decide)) (ni_Kind T) (av 0) (aa_cons (ae_call (okA_uniform T) (hr.mono (by decide)) (by rfl) (aa_cons ae_bl aa_nil)) aa_nil))))) ?vc
  case len =>
    intro ds L R RX h
    unfold asp_Kind_none at h
    split at h <;> first | rfl | exact h.elim
  case vc =>
    intro ds L R RX h
    unfold asp_Kind_none at h
    split at h
    · rename_i C
      obtain ⟨rfl, h⟩ := h
      refine ⟨rfl, fun p hp => ⟨sput_same, rfl, ?_⟩⟩
      rw [sput_sput]
      exact ret_of (h p hp)
    · exact h.elim
theorem ok_TooLarge___init__ (T : Txt K mg base) : ErrD P w K mg base 2 "TooLarge" (He.ga K "TooLarge") ["self", "pieces"] (spErr K (He.ga K "TooLarge") "pieces") := by
  refine T.e_TooLarge.ok sc_TooLarge___init__ (fun vs H Q E h => ?_) (fun f cdv A outer s H vs Q E hr h => ?_)
  · obtain ⟨a, v, rfl, _⟩ := h
    rfl
  · obtain ⟨a, v, rfl, ha, k⟩ := h
    refine ⟨_, (pss_cons (ps_expr (pe_cinit (by rfl) T.b_JetError.1 T.b_JetError.2 (pa_cons (pv 0) (pa_cons pe_str pa_nil))))
      (pss_one (ps_ost (pv 0) (pv 1)))), ?_⟩
    exact ⟨.ref a, rfl, a, He.ga K "TooLarge", [.str "TooLarge"], rfl, by show 1 ≤ 1000; decide, T.e_TooLarge.c.o, ha, v, rfl, .ref a, rfl, a, He.ga K "TooLarge", rfl, T.e_TooLarge.c.o, T.na_TooLarge, .inl ⟨ha, fun dx nd ne => k dx nd ne⟩⟩
theorem ok_TooDeep___init__ (T : Txt K mg base) : ErrD P w K mg base 2 "TooDeep" (He.ga K "TooDeep") ["self", "basins"] (spErr K (He.ga K "TooDeep") "basins") := by
  refine T.e_TooDeep.ok sc_TooDeep___init__ (fun vs H Q E h => ?_) (fun f cdv A outer s H vs Q E hr h => ?_)
  · obtain ⟨a, v, rfl, _⟩ := h
    rfl
  · obtain ⟨a, v, rfl, ha, k⟩ := h
    refine ⟨_, (pss_cons (ps_expr (pe_cinit (by rfl) T.b_JetError.1 T.b_JetError.2 (pa_cons (pv 0) (pa_cons pe_str pa_nil))))
      (pss_one (ps_ost (pv 0) (pv 1)))), ?_⟩
    exact ⟨.ref a, rfl, a, He.ga K "TooDeep", [.str "TooDeep"], rfl, by show 1 ≤ 1000; decide, T.e_TooDeep.c.o, ha, v, rfl, .ref a, rfl, a, He.ga K "TooDeep", rfl, T.e_TooDeep.c.o, T.na_TooDeep, .inl ⟨ha, fun dx nd ne => k dx nd ne⟩⟩
def OutN (K : PySem.W.Frag) (t : T) (H : Hp) (E : XK) (k : Prop) : Prop :=
  (5000 < t.size → ∀ d H', Same H H' → H' d = some (.xd [("pieces", .int (t.size : Nat))]) → E (.ref (He.ga K "TooLarge")) (some d) H') ∧
  (t.size ≤ 5000 → 120 < t.dep → ∀ d H', Same H H' → H' d = some (.xd [("basins", .int (t.dep : Nat))]) → E (.ref (He.ga K "TooDeep")) (some d) H') ∧ (t.size ≤ 5000 → t.dep ≤ 120 → k)
def sp_check_numbers_x (K : PySem.W.Frag) : Sp := fun vs H Q E => ∃ n t, vs = [.ref n] ∧ H n = some (.tup (nums t)) ∧ OutN K t H E (Q .non H)
theorem ok_check_numbers_x  (T : Txt K mg base) : CallD P w K mg base (L2.CX P w) 4 "check_numbers" ["numbers"] [] (sp_check_numbers_x K) := by
  refine T.d_check_numbers.okX sc_check_numbers (fun vs H Q E h => ?_) (fun f cdv A outer s H vs Q E hr h => ?_)
  · obtain ⟨n, t, rfl, _⟩ := h
    rfl
  · obtain ⟨n, t, rfl, hn, k1, k2, k3⟩ := h
    refine ⟨_, (pss_cons (ps_if (pt_cmpR op_gt (pe_ix ix_tup (pv 0) pe_int (fun _ _ => rfl)) (pe_gint rfl T.gMOST) (nomark _))
        (pss_one (ps_raise rfl (takes_of rfl rfl rfl rfl) (pmk_err (ok_TooLarge___init__ T) (hr.mono (by decide)) (by rfl) (pe_ix ix_tup (pv 0) pe_int (fun _ _ => rfl)))))
        pss_nil)
      (pss_one (ps_if (pt_cmpR op_gt (pe_ix ix_tup (pv 0) pe_int (fun _ _ => rfl)) (pe_gint rfl T.gDEEPEST) (nomark _))
        (pss_one (ps_raise rfl (takes_of rfl rfl rfl rfl) (pmk_err (ok_TooDeep___init__ T) (hr.mono (by decide)) (by rfl) (pe_ix ix_tup (pv 0) pe_int (fun _ _ => rfl)))))
        pss_nil))), ?_⟩
    refine ⟨.ref n, rfl, n, _, _, _, rfl, rfl, SqT.of hn, rfl, _, _, rfl, rfl, _, rfl, ite2 (fun e => ?_) fun e => ⟨.ref n, rfl, n, _, _, _, rfl, rfl, SqT.of hn, rfl, _, _, rfl, rfl, _, rfl, ite2 (fun e2 => ?_) fun e2 => ?_⟩⟩
    · have h1 := of_decide_eq_true e
      exact ⟨.ref n, rfl, n, _, _, _, rfl, rfl, SqT.of hn, rfl, fun d H' s _ z => k1 (by omega) d H' s z⟩
    · have h1 : ¬ ((5000 : Int) < (t.size : Nat)) := fun z => e (decide_eq_true z)
      have h2 := of_decide_eq_true e2
      exact ⟨.ref n, rfl, n, _, _, _, rfl, rfl, SqT.of hn, rfl, fun d H' s _ z => k2 (by omega) (by omega) d H' s z⟩
    · have h1 : ¬ ((5000 : Int) < (t.size : Nat)) := fun z => e (decide_eq_true z)
      have h2 : ¬ ((120 : Int) < (t.dep : Nat)) := fun z => e2 (decide_eq_true z)
      exact k3 (by omega) (by omega)
def OutF (K : PySem.W.Frag) (t : T) (H : Hp) (Q : VK) (E : XK) : Prop :=
  (5000 < t.size → ∀ d H', LamX.ExtN H H' → LamX.Tabs (TT K) H' → H' d = some (.xd [("pieces", .int (t.size : Nat))]) → E (.ref (He.ga K "TooLarge")) (some d) H') ∧
  (t.size ≤ 5000 → 120 < t.dep → ∀ d H', LamX.ExtN H H' → LamX.Tabs (TT K) H' → H' d = some (.xd [("basins", .int (t.dep : Nat))]) → E (.ref (He.ga K "TooDeep")) (some d) H') ∧
  (t.size ≤ 5000 → t.dep ≤ 120 → ∀ w H', LamX.ExtN H H' → LamX.Tabs (TT K) H' → Ftn (cF K) H' t w → Q w H')
theorem OutF.from {K : PySem.W.Frag} {t : T} {H H1 : Hp} {Q : VK} {E : XK} (o : OutF K t H Q E) (e : LamX.ExtN H H1) : OutF K t H1 Q E :=
  ⟨fun h d H' e' => o.1 h d H' (e.trans e'), fun h h2 d H' e' => o.2.1 h h2 d H' (e.trans e'), fun h h2 w H' e' => o.2.2 h h2 w H' (e.trans e')⟩
theorem OutF.nums {K : PySem.W.Frag} {t : T} {H : Hp} {Q : VK} {E : XK} {k : Prop} (o : OutF K t H Q E) (hT : LamX.Tabs (TT K) H) (h : t.size ≤ 5000 → t.dep ≤ 120 → k) : OutN K t H E k :=
  ⟨fun h d H' s => o.1 h d H' (.of s) (Tabs.same hT s), fun h h2 d H' s => o.2.1 h h2 d H' (.of s) (Tabs.same hT s), h⟩
theorem out_low {K : PySem.W.Frag} {scr : Option (Addr × List Int)} {t : T} {H : Hp} {L : Store} {R : AQ} {RX : AX} {Q : VK} {E : XK} (h : outD t L R RX) (g : Good (cA K scr) L H) (pq : Pq (cA K scr) H R Q) (px : Px (cA K scr) H RX E) : OutF K t H Q E := by
  refine ⟨fun h5 d H' e' T' hd => ?_, fun h5 h12 d H' e' T' hd => ?_, fun h5 h12 w H' e' T' hf => pq _ L _ H' (h.2.2 h5 h12) (.extN e') (g.extN T' e') (rep_tree.mpr hf)⟩
  · exact px "TooLarge" _ L H' (some d) (h.1 h5) (.extN e') (g.extN T' e') (.inr ⟨"pieces", _, d, _, rfl, rfl, hd, rep_int.mpr rfl⟩)
  · exact px "TooDeep" _ L H' (some d) (h.2.1 h5 h12) (.extN e') (g.extN T' e') (.inr ⟨"basins", _, d, _, rfl, rfl, hd, rep_int.mpr rfl⟩)
def sp_product_numbers (K : PySem.W.Frag) : Sp := fun vs H Q _ => ∃ n m a b, vs = [.ref n, .ref m] ∧ H n = some (.tup (nums a)) ∧ H m = some (.tup (nums b)) ∧ Can a ∧ (a.jts < 18446744073709551616 ∨ b.size < 18446744073709551616) ∧ ∀ p H', Same H H' → H' p = some (.tup (nums (JW.T.grf b a))) → Q (.ref p) H'
theorem ok_product_numbers  (T : Txt K mg base) : CallD P w K mg base CX0 1 "product_numbers" ["one", "other"] [] (sp_product_numbers K) := by
  refine T.d_product_numbers.ok sc_product_numbers (fun vs H Q E h => ?_) (fun f cdv A outer s H vs Q E hr h => ?_)
  · obtain ⟨n, m, a, b, rfl, _⟩ := h
    rfl
  · obtain ⟨n, m, a, b, rfl, hn, hm, hc, hj, k⟩ := h
    have hjb := jts_le b
    have cmA : CMul ((a.jts : Nat) : Int) ((b.size : Nat) - 1 : Int) := hj.elim (fun h => .inl ⟨by omega, by omega⟩) fun h => .inr ⟨by omega, by omega⟩
    have cmB : CMul ((a.jts : Nat) : Int) ((b.jts : Nat) : Int) := hj.elim (fun h => .inl ⟨by omega, by omega⟩) fun h => .inr ⟨by omega, by omega⟩
    have hgs := grf_sizeI b a
    have hgj := grf_jts b a
    have hgd := grf_dep b a
    refine ⟨_, (pss_cons (ps_if (pt_cmpR op_eq (pe_ix ix_tup (pv 0) pe_int (fun _ _ => rfl)) pe_int (nomark _))
        (pss_one (ps_ret (pv 0)))
        pss_nil)
      (pss_cons (ps_set (i := 2) sc_product_numbers.nd rfl (by first | exact Or.inl rfl | exact Or.inr rfl) (pe_callB (call_max2 rfl) (by rfl) T.n_max (by decide +kernel) (pa_cons (pe_ix ix_tup (pv 0) pe_int (fun _ _ => rfl)) (pa_cons (pe_op op_add (pe_ix ix_tup (pv 0) pe_int (fun _ _ => rfl)) (pe_ix ix_tup (pv 1) pe_int (fun _ _ => rfl))) pa_nil))))
      (pss_cons (ps_par (i := 3) (j := 4) (by rfl) sc_product_numbers.nd rfl rfl (by decide) rfl rfl (pa_cons (pe_op op_add (pe_ix ix_tup (pv 0) pe_int (fun _ _ => rfl)) (pe_op op_mul (pe_ix ix_tup (pv 0) pe_int (fun _ _ => rfl)) (pe_op op_sub (pe_ix ix_tup (pv 1) pe_int (fun _ _ => rfl)) pe_int))) (pa_cons (pe_op op_mul (pe_ix ix_tup (pv 0) pe_int (fun _ _ => rfl)) (pe_ix ix_tup (pv 1) pe_int (fun _ _ => rfl))) pa_nil)) (by rfl))
      (pss_cons (ps_if (pt_cmpR op_eq (pv 4) pe_int (nomark _))
        (pss_one (ps_ret (pe_tup (pa_cons (pv 3) (pa_cons (pv 4) (pa_cons (pv 2) (pa_cons pe_non (pa_cons pe_non pa_nil))))))))
        pss_nil)
      (pss_one (ps_ret (pe_tup (pa_cons (pv 3) (pa_cons (pv 4) (pa_cons (pv 2) (pa_cons (pe_op op_add (pe_ix ix_tup (pv 0) pe_int (fun _ _ => rfl)) (pe_ix ix_tup (pv 1) pe_int (fun _ _ => rfl))) (pa_cons (pe_op op_add (pe_ix ix_tup (pv 0) pe_int (fun _ _ => rfl)) (pe_ix ix_tup (pv 1) pe_int (fun _ _ => rfl))) pa_nil)))))))))))), ?_⟩
    refine ⟨.ref n, rfl, n, _, _, _, rfl, rfl, SqT.of hn, rfl, rfl, _, rfl, ite2 (fun e => ⟨.ref n, rfl, ?_⟩) fun e => ?_⟩
    · have e0 := of_decide_eq_true e
      have e1 : ((a.jts : Nat) : Int) = 0 := V.int.inj e0
      refine k n H (Same.refl H) ?_
      rw [grf_closed b a hc (by omega)]
      exact hn
    have hj0 : a.jts ≠ 0 := fun z => e (decide_eq_true (by rw [z]; rfl))
    have na : nums a = [.int (a.size : Nat), .int (a.jts : Nat), .int (a.dep : Nat), .int (a.lng : Nat), .int (a.sht : Nat)] := by
      unfold nums
      rw [if_neg hj0, if_neg hj0]
    rw [if_neg hj0] at hgd
    rw [na] at hn
    have hmx : ∀ i j : Nat, (if ((j : Nat) : Int) > (i : Nat) then ((j : Nat) : Int) else (i : Nat)) = ((max i j : Nat) : Int) := fun i j => by
      split <;> omega
    have hdd : ((a.lng : Nat) : Int) + (b.dep : Nat) = ((a.lng + b.dep : Nat) : Int) := by omega
    refine ⟨.ref n, rfl, n, _, _, _, rfl, rfl, SqT.of hn, rfl, .ref n, rfl, n, _, _, _, rfl, rfl, SqT.of hn, rfl, .ref m, rfl, m, _, _, _, rfl, rfl, SqT.of hm, rfl, _, _, rfl, rfl, _, _, rfl, .ref n, rfl, n, _, _, _, rfl, rfl, SqT.of hn, rfl, .ref n, rfl, n, _, _, _, rfl, rfl, SqT.of hn, rfl, .ref m, rfl, m, _, _, _, rfl, rfl, SqT.of hm, rfl, _, _, rfl, rfl, _, _, rfl, rfl, cmA, _, _, rfl, rfl, .ref n, rfl, n, _, _, _, rfl, rfl, SqT.of hn, rfl, .ref m, rfl, m, _, _, _, rfl, rfl, SqT.of hm, rfl, _, _, rfl, rfl, cmB, _, _, rfl, _, rfl, rfl, _, rfl, ite2 (fun e2 => ?_) fun e2 => ?_⟩
    · have e3 := V.int.inj (of_decide_eq_true e2)
      have hz : (JW.T.grf b a).jts = 0 := by
        rw [hgj]
        have := Int.mul_eq_zero.mp e3
        rcases this with h | h
        · exact absurd (by omega) hj0
        · rw [show b.jts = 0 by omega, Nat.mul_zero]
      refine ⟨_, rfl, _, rfl, _, rfl, sz5, fun p hp => k p _ (Same.new (Same.refl H) hp) ?_⟩
      rw [upd_same, hdd, hmx, ← hgd]
      dsimp only
      rw [e3]
      unfold nums
      rw [if_pos hz, if_pos hz, hgs, hz]
      rfl
    · have hb0 : b.jts ≠ 0 := fun z => e2 (decide_eq_true (show V.int (((a.jts : Nat) : Int) * ((b.jts : Nat) : Int)) = V.int 0 from by rw [z]; exact congrArg V.int (Int.mul_zero _)))
      have hz : (JW.T.grf b a).jts ≠ 0 := by
        rw [hgj]
        exact fun z => hj0 ((mul_zero_iff hb0).mp z)
      have nb : nums b = [.int (b.size : Nat), .int (b.jts : Nat), .int (b.dep : Nat), .int (b.lng : Nat), .int (b.sht : Nat)] := by
        unfold nums
        rw [if_neg hb0, if_neg hb0]
      rw [nb] at hm
      refine ⟨_, rfl, _, rfl, _, rfl, .ref n, rfl, n, _, _, _, rfl, rfl, SqT.of hn, rfl, .ref m, rfl, m, _, _, _, rfl, rfl, SqT.of hm, rfl, _, _, rfl, rfl, .ref n, rfl, n, _, _, _, rfl, rfl, SqT.of hn, rfl, .ref m, rfl, m, _, _, _, rfl, rfl, SqT.of hm, rfl, _, _, rfl, rfl, sz5, fun p hp => k p _ (Same.new (Same.refl H) hp) ?_⟩
      rw [upd_same, hdd, hmx, ← hgd]
      unfold nums
      rw [if_neg hz, if_neg hz, hgs, hgj, grf_lng hb0 a hj0, grf_sht hb0 a hj0]
      simp only [Int.natCast_add, Int.natCast_mul]
def sp_grafted (K : PySem.W.Frag) (n : Nat) : Sp := fun vs H Q _ => ∃ v t b u, vs = [v, u] ∧ Ftn (cF K) H t v ∧ Ftn (cF K) H b u ∧ Can t ∧ t.dep < n ∧ (JW.T.grf b t).size ≤ 1048576 ∧ LamX.Tabs (TT K) H ∧ ∀ w H', LamX.ExtN H H' → LamX.Tabs (TT K) H' → Ftn (cF K) H' (JW.T.grf b t) w → Q w H'
theorem sizeL_map_mem {f : T → T} {l : List T} {t : T} (h : t ∈ l) : (f t).size ≤ sizeL (l.map f) := len_le (List.mem_map.mpr ⟨t, h, rfl⟩)
theorem step_grafted  (T : Txt K mg base) (n : Nat) (ih : CallD P w K mg base CX0 (6 + n) "grafted" ["fountain", "part"] [] (sp_grafted K n)) : CallD P w K mg base CX0 (6 + n + 1) "grafted" ["fountain", "part"] [] (sp_grafted K (n + 1)) := by
  refine T.d_grafted.ok sc_grafted (fun vs H Q E h => ?_) (fun f cdv A outer s H vs Q E hr h => ?_)
  · obtain ⟨v, t, b, u, rfl, _⟩ := h
    rfl
  · obtain ⟨v, t, b, u, rfl, hv, hu, hc, hn, hsz, hT, k⟩ := h
    obtain ⟨av, dv, bv, nv, xv, rfl, hav, hbv, hnv, hkv⟩ := ftn_iff.mp hv
    obtain ⟨au, du, bu, nu, xu, rfl, hau, hbu, hnu, hku⟩ := ftn_iff.mp hu
    have hsl := sizeLine_eq
    refine ⟨_, (pss_cons (ps_if (pt_val (pe_propD T.cls.c (ok_Fountain_is_jet T) (hr.mono (by omega)) pass0 (pv 0) rfl))
        (pss_one (ps_ret (pv 1)))
        pss_nil)
      (pss_cons (ps_if (pt_not (pt_val (pe_propD T.cls.c (ok_Fountain_is_open T) (hr.mono (by omega)) pass0 (pv 0) rfl)))
        (pss_one (ps_ret (pv 0)))
        pss_nil)
      (pss_one (ps_ret (pe_callD (ok_made T) (hr.mono (by omega)) (by rfl) pass0 (pa_cons (pe_lc (own := [("branch", 2)]) (g := gName 2) (tt := tYes) (by rfl) sc_grafted.nd (pi_tup (pe_propD T.cls.c (ok_Fountain_parts T) (hr.mono (by omega)) pass0 (pv 0) rfl)) (blkOk_by (by kernel_rfl)) (fun _ _ _ _ _ => pg_name (i := 2) sc_grafted.nd rfl (by first | exact Or.inl rfl | exact Or.inr rfl)) (fun _ _ _ _ _ => pts_nil) (fun _ _ _ _ _ => (pe_callD ih (hr.mono (by omega)) (by rfl) pass0 (pa_cons (pv 2) (pa_cons (pv 1) pa_nil))))) pa_nil)))))), ?_⟩
    refine ⟨.ref av, rfl, ev_prop hv ⟨_, rfl, ite2 (fun e => ⟨.ref au, rfl, ?_⟩) fun e => ⟨.ref av, rfl, ev_prop hv ⟨_, rfl, ite2 (fun e1 => ⟨.ref av, rfl, ?_⟩) fun e1 => ?_⟩⟩⟩⟩
    · have e' : t = .jet := of_decide_eq_true e
      subst e'
      exact k _ _ (LamX.ExtN.refl H) hT hu
    · refine k _ _ (LamX.ExtN.refl H) hT ?_
      rw [grf_closed b t hc (by simpa using e1)]
      exact hv
    have hj : t.jts ≠ 0 := fun z => e1 (by rw [z]; rfl)
    cases t with
    | jet => exact absurd (decide_eq_true rfl) e
    | bas l =>
      rw [grf_bas] at k hsz
      have hs2 : 1 + sizeL (sortT (l.map (JW.T.grf b))) ≤ 1048576 := hsz
      rw [sizeL_perm (sortT_perm _)] at hs2
      have hll := length_le (l.map (JW.T.grf b))
      rw [List.length_map] at hll
      refine ⟨.ref av, rfl, ev_kids hv fun b' xs' hb' hk' => ⟨b', rfl, ⟨xs', SqT.of hb'⟩, fun D hD => lc_ftnT (l := l) (g := JW.T.grf b) hD (SqT.of hb') hk' ?_ hT (fun _ => rfl) (fun x t' H' Q' ht' hx' hE' hT' q' => ?_) (fun H' ys hE hT2 hy hfy => ?_)⟩⟩
      · have h1 : xs'.length = l.length := hk'.len
        omega
      · have h1 := dep_lt ht'
        have h2 := sizeL_map_mem (f := JW.T.grf b) ht'
        exact ⟨x, rfl, .ref au, rfl, x, t', b, .ref au, rfl, hx', hu.ext hE', canL_iff.mp hc.2 t' ht', by omega, by omega, hT', q'⟩
      · exact ⟨D, ys, l.map (JW.T.grf b), rfl, .inl (SqL.of hy), hfy, by omega, hT2, fun w H'' e1 e2 e3 => k w H'' (hE.trans e1) e2 e3⟩
theorem ok_grafted  (T : Txt K mg base) (n : Nat) : CallD P w K mg base CX0 (6 + n) "grafted" ["fountain", "part"] [] (sp_grafted K n) := callD_rec (sp := sp_grafted K) T.d_grafted (by
    rintro vs H Q E ⟨v, t, b, u, _, _, _, _, z, _⟩
    exact absurd z (Nat.not_lt_zero _)
    ) (step_grafted T) n
def sp_multiplied (K : PySem.W.Frag) : Sp := fun vs H Q E => ∃ v xs ts, vs = [.ref v] ∧ SqL K H v xs ∧ FtnL (cF K) H ts xs ∧ (∀ t ∈ ts, Can t) ∧ ((∀ i, (prodT (ts.take i)).jts < 18446744073709551616) ∨ ∀ t ∈ ts, t.size < 18446744073709551616) ∧ LamX.Tabs (TT K) H ∧ OutF K (prodT ts) H Q E
theorem ok_multiplied  (T : Txt K mg base) : CallD P w K mg base (L2.CX P w) 129 "multiplied" ["factors"] [] (sp_multiplied K) := by
  refine T.d_multiplied.okX sc_multiplied (fun vs H Q E h => ?_) (fun f cdv A outer s H vs Q E hr h => ?_)
  · obtain ⟨v, xs, ts, rfl, _⟩ := h
    rfl
  · obtain ⟨v, xs, ts, rfl, hS, hf, hc, hj, hT, o⟩ := h
    have hlen := hf.len
    refine ⟨_, (pss_cons (ps_set (i := 1) sc_multiplied.nd rfl (by first | exact Or.inl rfl | exact Or.inr rfl) (pe_fld (pe_via (pe_makeD (ok_Fountain___init__ T) (hr.mono (by decide)) (by rfl) pass0 (pa_cons (pe_gstr rfl T.gJET_TEXT) (pa_cons (pe_tup pa_nil) pa_nil)))) rfl))
      (pss_cons (ps_for (passes_of rfl) rfl (pi_list (pv 0)) (pg_name (i := 2) sc_multiplied.nd rfl (by first | exact Or.inl rfl | exact Or.inr rfl))
        (pss_one (ps_set (i := 1) sc_multiplied.nd rfl (by first | exact Or.inl rfl | exact Or.inr rfl) (pe_callD (ok_product_numbers T) (hr.mono (by decide)) (by rfl) pass0 (pa_cons (pv 1) (pa_cons (pe_fld (pv 2) rfl) pa_nil))))))
      (pss_cons (ps_expr (pe_callD (ok_check_numbers_x T) (hr.mono (by decide)) (by rfl) (passE rfl rfl rfl rfl) (pa_cons (pv 1) pa_nil)))
      (pss_cons (ps_set (i := 3) sc_multiplied.nd rfl (by first | exact Or.inl rfl | exact Or.inr rfl) (pe_via (pe_makeD (ok_Fountain___init__ T) (hr.mono (by decide)) (by rfl) pass0 (pa_cons (pe_gstr rfl T.gJET_TEXT) (pa_cons (pe_tup pa_nil) pa_nil)))))
      (pss_cons (ps_for (passes_of rfl) rfl (pi_list (pv 0)) (pg_name (i := 2) sc_multiplied.nd rfl (by first | exact Or.inl rfl | exact Or.inr rfl))
        (pss_one (ps_set (i := 3) sc_multiplied.nd rfl (by first | exact Or.inl rfl | exact Or.inr rfl) (pe_callD (ok_grafted T 121) (hr.mono (by decide)) (by rfl) pass0 (pa_cons (pv 3) (pa_cons (pv 2) pa_nil))))))
      (pss_one (ps_ret (pv 3)))))))), ?_⟩
    refine ⟨fun v H' => Same H H' ∧ Ftn (cF K) H' .jet v, mk_jet (K := K) (H := H) (Q := fun v H' => Same H H' ∧ Ftn (cF K) H' .jet v) (E := E0) fun v H' s f => ⟨s, f⟩, fun v0 H1 ⟨s1, f0⟩ => ?_⟩
    obtain ⟨a0, d0, b0, n0, x0, rfl, ha0, hb0, hn0, hk0⟩ := ftn_iff.mp f0
    have hlt : ∀ {i : Nat} {x : V}, xs[i]? = some x → i < ts.length := fun h => by
      have := (List.getElem?_eq_some_iff.mp h).1
      omega
    have tk : ∀ {i : Nat} {t : JW.T}, ts[i]? = some t → prodT (ts.take (i + 1)) = JW.T.grf t (prodT (ts.take i)) := fun h => by
      rw [List.take_succ, h]
      exact prod_snoc _ _
    have ct : ∀ i, Can (prodT (ts.take i)) := fun i => prod_can fun t ht => hc t (List.mem_of_mem_take ht)
    refine ⟨a0, _, d0, _, _, rfl, ha0, T.cls.c, T.cls.nn, fl_n, .ref v, rfl, v, rfl, ⟨_, s1.seq hS⟩, for_list (K := K) (a := v) (xs := xs) (fun i σ' H' => ∃ n v2, σ' = [some (.ref v), some (.ref n), v2, none] ∧ Same H H' ∧ H' n = some (.tup (nums (prodT (ts.take i))))) ⟨n0, none, rfl, s1, hn0⟩ (fun i σ' H' _ ⟨_, _, _, s, _⟩ => s.seq hS) ?_ ?_⟩
    · rintro i x σ' H2 hx ⟨n, v2, rfl, s2, hn2⟩
      obtain ⟨t, e1, e2⟩ := hf.get hx
      obtain ⟨ax, dx, bx, nx, yx, rfl, hax, hbx, hnx, hkx⟩ := ftn_iff.mp (e2.same s2)
      refine ⟨.ref n, rfl, .ref ax, rfl, ax, _, dx, _, _, rfl, hax, T.cls.c, T.cls.nn, fl_n, n, nx, prodT (ts.take i), t, rfl, hn2, hnx, ct i, hj.elim (fun h => .inl (h i)) (fun h => .inr (h t (List.mem_of_getElem? e1))), fun p H3 s3 hp => ⟨p, some (.ref ax), rfl, s2.trans s3, ?_⟩⟩
      rw [tk e1]
      exact hp
    rintro σ' H2 ⟨n, v2, rfl, s2, hn2⟩
    rw [hlen, List.take_length] at hn2
    have T2 := Tabs.same hT s2
    refine ⟨.ref n, rfl, n, prodT ts, rfl, hn2, (o.from (.of s2)).nums T2 fun h5 h12 => ?_⟩
    refine ⟨fun v H' => Same H2 H' ∧ Ftn (cF K) H' .jet v, mk_jet (K := K) (H := H2) (Q := fun v H' => Same H2 H' ∧ Ftn (cF K) H' .jet v) (E := E0) fun v H' s f => ⟨s, f⟩, fun v3 H3 ⟨s3, f3⟩ => ?_⟩
    have s23 := s2.trans s3
    refine ⟨.ref v, rfl, v, rfl, ⟨_, s23.seq hS⟩, for_list (K := K) (a := v) (xs := xs) (fun i σ' H' => ∃ w v2, σ' = [some (.ref v), some (.ref n), v2, some w] ∧ LamX.ExtN H H' ∧ LamX.Tabs (TT K) H' ∧ Ftn (cF K) H' (prodT (ts.take i)) w) ⟨v3, _, rfl, .of s23, Tabs.same T2 s3, f3⟩ (fun i σ' H' _ ⟨_, _, _, e, _⟩ => seqN hS e) ?_ ?_⟩
    · rintro i x σ' H4 hx ⟨w, v2, rfl, e4, T4, f4⟩
      obtain ⟨t, e1, e2⟩ := hf.get hx
      have hle := prod_take_le ts i
      have hle2 := prod_take_le ts (i + 1)
      rw [tk e1] at hle2
      refine ⟨w, rfl, x, rfl, w, prodT (ts.take i), t, x, rfl, f4, e2.ext e4, ct i, by omega, by omega, T4, fun w' H5 e5 T5 f5 => ⟨w', some x, rfl, e4.trans e5, T5, ?_⟩⟩
      rw [tk e1]
      exact f5
    rintro σ' H4 ⟨w, v2, rfl, e4, T4, f4⟩
    rw [hlen, List.take_length] at f4
    exact ⟨w, rfl, o.2.2 h5 h12 w H4 e4 T4 f4⟩
def sp_product (K : PySem.W.Frag) : Sp := fun vs H Q E => ∃ (C v : Addr) (xs : List V) (ts : List T), vs = [.ref C, .ref v] ∧ (SqL K H v xs ∨ SqT K H v xs) ∧ FtnL (cF K) H ts xs ∧ (∀ t ∈ ts, Can t) ∧ ((∀ i, (prodT (ts.take i)).jts < 18446744073709551616) ∨ ∀ t ∈ ts, t.size < 18446744073709551616) ∧ LamX.Tabs (TT K) H ∧ OutF K (prodT ts) H Q E
theorem ok_Fountain_product  (T : Txt K mg base) : CmD P w K mg base (L2.CX P w) 131 (cF K) "product" ["cls", "parts"] (sp_product K) := by
  refine T.c_product.okX sc_Fountain_product (fun vs H Q E h => ?_) (fun f cdv A outer s H vs Q E hr h => ?_)
  · obtain ⟨C, v, xs, ts, rfl, _⟩ := h
    rfl
  · obtain ⟨C, v, xs, ts, rfl, hq, hl, hc, hj, hT, o⟩ := h
    refine ⟨_, (pss_one (ps_ret (pe_callD (ok_multiplied T) (hr.mono (by decide)) (by rfl) (passE rfl rfl rfl rfl) (pa_cons (pe_callTy call_list_of (by rfl) T.n_list (by decide +kernel) (pa_cons (pv 1) pa_nil)) pa_nil)))), ?_⟩
    refine ⟨.ref v, rfl, v, xs, rfl, hq, fun p hp => ?_⟩
    have s1 : Same H (upd H p (.lst xs)) := Same.new (Same.refl H) hp
    exact ⟨p, xs, ts, rfl, SqL.of upd_same, hl.same s1, hc, hj, Tabs.same hT s1, o.from (.of s1)⟩
def asp_Fountain_product : ASp
  | [.ref _, x], L, Q, RX => ∃ ts : List T, (x = .tup (ts.map D.tree) ∨ ∃ p, x = .ref p ∧ L p = some (.lst (ts.map D.tree))) ∧ (∀ t ∈ ts, Can t) ∧ (∀ t ∈ ts, t.size ≤ 5000) ∧ outD (prodT ts) L Q RX
  | _, _, _, _ => False
theorem okA_Fountain_product (T : Txt K mg base) {scr : Option (Addr × List Int)} : CmD P w K mg base (L2.CX P w) 131 (cF K) "product" ["cls", "parts"] (spA (cA K scr) asp_Fountain_product) :=
  (ok_Fountain_product T).imp fun vs H Q E ⟨ds, L, R, RX, r, g, h, pq, px⟩ => by
    unfold asp_Fountain_product at h
    split at h
    · obtain ⟨ts, h1, h2, h3, h⟩ := h
      obtain ⟨v, w, rfl, r1, r2⟩ := repL_two r
      cases rep_ref.mp r1
      rcases h1 with e | ⟨p, e, hp⟩
      · subst e
        obtain ⟨p, vs, rfl, e1, rs⟩ := rep_tup.mp r2
        exact ⟨_, _, vs, ts, rfl, .inr e1, RepL.trees.mp rs, h2, .inr fun t ht => by have := h3 t ht; omega, g.tabs, out_low h g pq px⟩
      · subst e
        cases rep_ref.mp r2
        obtain ⟨vs, e1, rs⟩ := good_lst g hp
        exact ⟨_, _, vs, ts, rfl, .inl (SqL.of e1), RepL.trees.mp rs, h2, .inr fun t ht => by have := h3 t ht; omega, g.tabs, out_low h g pq px⟩
    · exact h.elim

def namD (q : List JW.T × Bool × Bool) : D := .tup [.int (q.1.length : Nat), .str (tx (prodT q.1)), .bl q.2.1, .bl q.2.2]
def asp_named (n : Nat) : ASp
  | [a, b], L, Q, RX => ∃ (S : List JW.T) (k : Nat) (x : Nd) (e : List JW.T), a = x.d ∧ b = .tup (e.map .tree) ∧ k < n ∧ k ≤ 20 ∧ Nd.Wf S k x ∧ (∀ q ∈ namN e x, (∀ p ∈ q.1, Can p ∧ p.size ≤ 5000) ∧ (prodT q.1).size ≤ 5000 ∧ (prodT q.1).dep ≤ 120) ∧ (namN e x).length ≤ 1000000 ∧ e.length + k ≤ 1000 ∧ ∀ p, L p = none → Q (.ref p) (sput L p (.lst ((namN e x).map namD)))
  | _, _, _, _ => False
theorem stepA_named  (T : Txt K mg base) {scr : Option (Addr × List Int)} (n : Nat) (ih : CallD P w K mg base (L2.CX P w) (150 + n) "named" ["node", "end"] [] (spA (cA K scr) (asp_named n))) : CallD P w K mg base (L2.CX P w) (150 + n + 1) "named" ["node", "end"] [] (spA (cA K scr) (asp_named (n + 1))) := by
  refine T.d_named.okAX sc_named ?len (fun f cdv A outer s H E RX hE hr => (as_cons (as_set (i := 2) sc_named.nd rfl (by first | exact Or.inl rfl | exact Or.inr rfl) (ae_lst (aa_cons (ae_tup (aa_cons (ae_b acb_len (by rfl) T.n_len (by decide +kernel) (aa_cons (av 1) aa_nil)) (aa_cons (ae_propG (fun t => .str (tx t)) (fun _ _ => rep_str.mpr rfl) T.cls.c (ok_Fountain_text T) (hr.mono (by omega)) (ae_cmP (by rfl) T.cls.g (okA_Fountain_product T) (hr.mono (by omega)) (passA_of (passE rfl rfl rfl rfl) hE) (aa_cons (av 1) aa_nil)) rfl) (aa_cons (ae_ix (av 0) ae_int (fun _ _ => rfl)) (aa_cons (ae_ix (av 0) ae_int (fun _ _ => rfl)) aa_nil))))) aa_nil)))
      (as_cons (as_for (passes_of rfl) rfl (ai_tup (ae_ix (av 0) ae_int (fun _ _ => rfl))) (ag_tup (n := 2) rfl (ags_cons (ag_name (i := 3) sc_named.nd rfl (by first | exact Or.inl rfl | exact Or.inr rfl)) (ags_cons (ag_name (i := 4) sc_named.nd rfl (by first | exact Or.inl rfl | exact Or.inr rfl)) ags_nil)) (fun _ _ _ _ z => agNs_len (js := [3, 4]) z))
        (as_one (as_set (i := 2) sc_named.nd rfl (by first | exact Or.inl rfl | exact Or.inr rfl) (ae_op aop_add (av 2) (ae_callP ih (hr.mono (by omega)) (by rfl) (passA_of (passE rfl rfl rfl rfl) hE) (aa_cons (av 4) (aa_cons (ae_op aop_add (ae_tup (aa_cons (av 3) aa_nil)) (av 1)) aa_nil)))))))
      (as_one (as_ret (av 2)))))) ?vc
  case len =>
    intro ds L R RX h
    unfold asp_named at h
    split at h <;> first | rfl | exact h.elim
  case vc =>
    intro ds L R RX h
    unfold asp_named at h
    split at h
    rotate_left
    · exact h.elim
    rename_i a b
    obtain ⟨S, k, x, e, rfl, rfl, hkn, hk, hx, hP, hz, he, h⟩ := h
    have hsl := sizeLine_eq
    have en := namN_eq e x
    rw [en] at hP hz h
    have h0 := hP (e, x.own, x.rest) List.mem_cons_self
    have h1 : (prodT e).size ≤ 5000 := h0.2.1
    have h2 : (prodT e).dep ≤ 120 := h0.2.2
    rw [Nd.d_eq x]
    refine ⟨e, .inl rfl, fun t ht => (h0.1 t ht).1, fun t ht => (h0.1 t ht).2, fun z => absurd h1 (by omega), fun _ z => absurd h2 (by omega), fun _ _ => ?_⟩
    refine ⟨_, Nd.at3_0, _, Nd.at3_1, by show (4 : Nat) ≤ sizeLine; omega, by show (1 : Nat) ≤ sizeLine; omega, fun p0 hp0 => ?_⟩
    refine ⟨_, Nd.at3_2, ?_⟩
    refine loop_map (fun q : JW.T × Nd => D.tup [.tree q.1, q.2.d]) x.br (fun pre env L' => SubS L L' ∧ ∃ (p : Addr) (y z : Option D), L p = none ∧ L' p = some (.lst (((e, x.own, x.rest) :: (pre.map fun q => namN (q.1 :: e) q.2).flatten).map namD)) ∧ env = [some (.tup [.bl x.own, .bl x.rest, .tup (x.br.map fun q => .tup [.tree q.1, q.2.d])]), some (.tup (e.map .tree)), some (.ref p), y, z]) (fun _ _ _ _ => trivial) ?step ?fin _ _ ⟨(SubS.refl L).new hp0, p0, none, none, hp0, ?ini, ?env⟩
    case ini =>
      rw [sput_same]
      show some (MO.lst [D.tup [.int ((e.map D.tree).length : Nat), _, _, _]]) = some (MO.lst [namD (e, x.own, x.rest)])
      rw [List.length_map]
      rfl
    case env => rfl
    case fin =>
      rintro env L' ⟨s, p, y, z, hp, hl, rfl⟩
      exact ret_sub (h p hp) (s.mine hl)
    case step =>
      rintro pre q rest nn e2 kn env L' ⟨s, p, y, z, hp, hl, rfl⟩
      have hq : q ∈ x.br := by rw [e2]; simp
      obtain ⟨j, rfl⟩ : ∃ j, k = j + 1 := by
        cases k with
        | zero =>
          rw [show x.br = [] from hx] at hq
          cases hq
        | succ j => exact ⟨j, rfl⟩
      have hwq := (hx.2 q hq).2
      have hsub : ∀ z ∈ namN (q.1 :: e) q.2, z ∈ (x.br.map fun q => namN (q.1 :: e) q.2).flatten := fun z hz => List.mem_flatten.mpr ⟨_, List.mem_map.mpr ⟨q, hq, rfl⟩, hz⟩
      have hl2 : (pre.map fun q => namN (q.1 :: e) q.2).flatten.length + (namN (q.1 :: e) q.2).length ≤ 1000000 := by
        rw [e2] at hz
        simp only [List.map_append, List.map_cons, List.flatten_append, List.flatten_cons, List.length_cons, List.length_append] at hz
        omega
      refine ⟨rfl, by show (1 : Nat) ≤ sizeLine; omega, by show [D.tree q.1].length + (e.map D.tree).length ≤ sizeLine; rw [List.length_map]; show 1 + e.length ≤ _; omega, ?_⟩
      refine ⟨S, j, q.2, q.1 :: e, rfl, rfl, by omega, by omega, hwq, fun z hz => hP z (List.mem_cons_of_mem _ (hsub z hz)), by omega, by rw [List.length_cons]; omega, fun r hr => ?_⟩
      refine ⟨_, _, sput_old hl hr, sput_same, by rw [List.length_map, List.length_map, List.length_cons]; omega, fun r2 hr2 => ?_⟩
      refine kn _ _ ⟨(s.new hr).new hr2, r2, _, _, (s.new hr).none hr2, ?_, rfl⟩
      rw [sput_same, ← List.map_append]
      simp only [List.map_append, List.map_cons, List.map_nil, List.flatten_append, List.flatten_cons, List.flatten_nil, List.append_nil, List.cons_append]
theorem okA_named  (T : Txt K mg base) {scr : Option (Addr × List Int)} (n : Nat) : CallD P w K mg base (L2.CX P w) (150 + n) "named" ["node", "end"] [] (spA (cA K scr) (asp_named n)) := callD_rec (sp := fun n => spA (cA K scr) (asp_named n)) T.d_named (fun vs H Q E ⟨ds, L, R, RX, _, _, h, _⟩ => by
    unfold asp_named at h
    split at h
    · obtain ⟨S, k, x, e, _, _, hk, _⟩ := h
      exact absurd hk (Nat.not_lt_zero _)
    · exact h.elim
    ) (stepA_named T) n
def row3 : D → D
  | .tup [_, b, c, d] => .tup [b, c, d]
  | d => d
def frmD (n : Nd) : D := .tup ((srtR ((namN [] n).map namD)).map row3)
def asp_Kind_form (K : PySem.W.Frag) : ASp
  | [.ref p], L, Q, _ => ∃ (S : List JW.T) (k : Nat) (n : Nd), L p = some (KdM K n) ∧ k ≤ 20 ∧ KOk S k 1000000 n ∧ Q (frmD n) L
  | _, _, _, _ => False
theorem okA_Kind_form  (T : Txt K mg base) {scr : Option (Addr × List Int)} : MethD P w K mg base CX0 176 (He.ga K "Kind") "form" ["self"] [] (spA (cA K scr) (asp_Kind_form K)) := by
  refine T.m_Kind_form.okA sc_Kind_form ?len (fun f cdv A outer s H E hr => (as_one (as_ret (ae_ty acb_tup (by rfl) T.n_tuple (by decide +kernel) (aa_cons (ae_lc (own := [("count", 1), ("text", 2), ("own", 3), ("rest", 4)]) (by rfl) sc_Kind_form.nd (ai_list (ae_b (acb_sortedR hr.units) (by rfl) T.n_sorted (by decide +kernel) (aa_cons (ae_callP (okA_named T 21) (hr.mono (by decide)) (by rfl) passA_no (aa_cons (ae_fldM (K := K) rfl (av 0) rfl) (aa_cons (ae_tup aa_nil) aa_nil))) aa_nil))) (blkOk_by (by kernel_rfl)) (tgOk_tup (js := [1, 2, 3, 4]) rfl (by decide)) (fun _ _ _ _ _ => pg_tupK (K := K) rfl rfl (pgs_cons (pg_name (i := 1) sc_Kind_form.nd rfl (by first | exact Or.inl rfl | exact Or.inr rfl)) (pgs_cons (pg_name (i := 2) sc_Kind_form.nd rfl (by first | exact Or.inl rfl | exact Or.inr rfl)) (pgs_cons (pg_name (i := 3) sc_Kind_form.nd rfl (by first | exact Or.inl rfl | exact Or.inr rfl)) (pgs_cons (pg_name (i := 4) sc_Kind_form.nd rfl (by first | exact Or.inl rfl | exact Or.inr rfl)) pgs_nil))))) (fun _ _ _ _ _ => (ae_tup (aa_cons (av 2) (aa_cons (av 3) (aa_cons (av 4) aa_nil)))))) aa_nil))))) ?vc
  case len =>
    intro ds L R RX h
    unfold asp_Kind_form at h
    split at h <;> first | rfl | exact h.elim
  case vc =>
    intro ds L R RX h
    unfold asp_Kind_form at h
    split at h
    · rename_i p
      obtain ⟨S, k, n, hp, hk, hK, h⟩ := h
      have hsl := sizeLine_eq
      have hlen : ((namN [] n).map namD).length ≤ 1000000 := by
        rw [List.length_map]
        exact hK.ct
      obtain ⟨ws, pw, e⟩ := perm_mapD (srtR_perm ((namN [] n).map namD)) rfl
      have hw : ws.length ≤ 1000000 := by
        rw [pw.length_eq]
        exact hK.ct
      refine ⟨p, _, _, _, _, rfl, hp, T.o_Kind.c, T.na_Kind_node, look_nd, Nat.zero_le _, S, k, n, [], rfl, rfl, by omega, hk, hK.wf, hK.en, hK.ct, by show 0 + k ≤ 1000; omega, fun r hr => ?_⟩
      refine ⟨[1, 2, 0, 0], _, sput_same, hlen, by decide, fun d hd => ?_, fun r2 hr2 => ?_⟩
      · obtain ⟨q, _, rfl⟩ := List.mem_map.mp hd
        exact ⟨_, rfl, rfl⟩
      have ef : frmD n = .tup (ws.map fun q => row3 (namD q)) := by
        unfold frmD
        rw [e, List.map_map]
        rfl
      rw [e]
      rw [ef] at h
      refine ⟨_, sput_same, fun P hP => ?_⟩
      refine comp_mapA namD (fun q => row3 (namD q)) (fun l => sput_old sput_same hP) ws [] (by show 0 + _ ≤ _; omega) (fun q hq l kk hk2 => ?_) ?_
      · refine ⟨rfl, ?_⟩
        exact ⟨rfl, by show (3 : Nat) ≤ sizeLine; omega, hk2⟩
      · exact ⟨_, sput_same, ret_sub h (((SubS.refl L).new hr).new hr2 |>.new hP)⟩
    · exact h.elim
def asp_Kind___or__ (K : PySem.W.Frag) : ASp
  | [.ref p, .ref q], L, Q, _ => ∃ (S : List JW.T) (m n : Nd), L p = some (KdM K m) ∧ L q = some (KdM K n) ∧ Prs S ∧ Nd.Wf S 20 m ∧ Nd.Wf S 20 n ∧ ∀ r, L r = none → Q (.ref r) (sput L r (KdM K (Nd.jn "|" 21 m n)))
  | _, _, _, _ => False
theorem okA_Kind___or__  (T : Txt K mg base) {scr : Option (Addr × List Int)} : MethD P w K mg base CX0 126 (He.ga K "Kind") "__or__" ["self", "other"] [] (spA (cA K scr) (asp_Kind___or__ K)) := by
  refine T.m_Kind___or__.okA sc_Kind___or__ ?len (fun f cdv A outer s H E hr => (as_cons (as_if (at_not (at_bl (ae_b (acb_isiM (K := K) (x := "Kind") rfl T.cls T.o_Kind) (by rfl) T.n_isinstance (by decide +kernel) (aa_cons (av 1) (aa_cons (ae_c (d := .ref (He.ga K "Kind")) (pe_glob (v := .ref (He.ga K "Kind")) rfl T.o_Kind.g rfl) (fun _ => rep_ref.mpr rfl)) aa_nil)))))
        ass_never
        as_nil)
      (as_one (as_ret (ae_makeM (okA_Kind___init__ T) (hr.mono (by decide)) (by rfl) (ni_Kind T) (aa_cons (ae_call (okA_joined T 21) (hr.mono (by decide)) (by rfl) (aa_cons ae_str (aa_cons (ae_fldM (K := K) rfl (av 0) rfl) (aa_cons (ae_fldM (K := K) rfl (av 1) rfl) aa_nil)))) aa_nil)))))) ?vc
  case len =>
    intro ds L R RX h
    unfold asp_Kind___or__ at h
    split at h <;> first | rfl | exact h.elim
  case vc =>
    intro ds L R RX h
    unfold asp_Kind___or__ at h
    split at h
    · rename_i p q
      obtain ⟨S, m, n, hp, hq, hS, hm, hn, h⟩ := h
      refine ⟨rfl, .inl ⟨q, rfl, ⟨_, _, hq⟩, ?_⟩⟩
      refine ⟨p, _, _, _, _, rfl, hp, T.o_Kind.c, T.na_Kind_node, look_nd, q, _, _, _, _, rfl, hq, T.o_Kind.c, T.na_Kind_node, look_nd, S, 20, m, n, hS, by decide, by decide, hm, hn, rfl, rfl, fun r hr => ⟨sput_same, rfl, ?_⟩⟩
      rw [sput_sput]
      exact ret_of (h r hr)
    · exact h.elim
def asp_Kind___eq__ (K : PySem.W.Frag) : ASp
  | [.ref p, .ref q], L, Q, _ => ∃ (m n : Nd) (b : Bool), L p = some (KdM K m) ∧ L q = some (KdM K n) ∧ eqDD m.d n.d = some b ∧ depD m.d ≤ 71 ∧ Q (.bl b) L
  | _, _, _, _ => False
theorem okA_Kind___eq__  (T : Txt K mg base) {scr : Option (Addr × List Int)} : MethD P w K mg base CX0 81 (He.ga K "Kind") "__eq__" ["self", "other"] [] (spA (cA K scr) (asp_Kind___eq__ K)) := by
  refine T.m_Kind___eq__.okA sc_Kind___eq__ ?len (fun f cdv A outer s H E hr => (as_one (as_ret (ae_and (ae_b (acb_isiM (K := K) (x := "Kind") rfl T.cls T.o_Kind) (by rfl) T.n_isinstance (by decide +kernel) (aa_cons (av 1) (aa_cons (ae_c (d := .ref (He.ga K "Kind")) (pe_glob (v := .ref (He.ga K "Kind")) rfl T.o_Kind.g rfl) (fun _ => rep_ref.mpr rfl)) aa_nil))) (ae_one (ae_cmp (aop_eqG (okF_eq T) (hr.mono (by decide)) hr.units) (ae_fldM (K := K) rfl (av 0) rfl) (ae_fldM (K := K) rfl (av 1) rfl) (nomark _))))))) ?vc
  case len =>
    intro ds L R RX h
    unfold asp_Kind___eq__ at h
    split at h <;> first | rfl | exact h.elim
  case vc =>
    intro ds L R RX h
    unfold asp_Kind___eq__ at h
    split at h
    · rename_i p q
      obtain ⟨m, n, b, hp, hq, hb, hd, h⟩ := h
      unfold KdM at hp hq
      rw [Nd.d_eq m] at hp hb hd
      rw [Nd.d_eq n] at hq hb
      obtain ⟨b1, e1, e2⟩ := Option.map_eq_some_iff.mp (show (eqDL _ _).map _ = some b by simpa only [eqDD] using hb)
      refine ⟨rfl, .inl ⟨q, rfl, ⟨_, _, hq⟩, ?_⟩⟩
      refine ⟨p, _, _, _, _, rfl, hp, T.o_Kind.c, T.na_Kind_node, look_nd, q, _, _, _, _, rfl, hq, T.o_Kind.c, T.na_Kind_node, look_nd, b1, e1, ?_, ?_⟩
      · simp only [depD] at hd
        omega
      · rw [Bool.false_xor, e2]
        exact ret_of h
    · exact h.elim
theorem exTs {P : JW.T → Prop} : ∀ {xs : List D}, (∀ x ∈ xs, ∃ t, x = .tree t ∧ P t) → ∃ ts : List JW.T, xs = ts.map .tree ∧ ∀ t ∈ ts, P t
  | [], _ => ⟨[], rfl, fun t h => absurd h List.not_mem_nil⟩
  | x :: xs, h => by
    obtain ⟨t, e, p⟩ := h x List.mem_cons_self
    obtain ⟨ts, e2, p2⟩ := exTs fun y hy => h y (List.mem_cons_of_mem _ hy)
    refine ⟨t :: ts, by rw [e, e2]; rfl, fun u hu => ?_⟩
    rcases List.mem_cons.mp hu with rfl | hu
    · exact p
    · exact p2 u hu
theorem plain_rows : ∀ ws : List (List JW.T × Bool × Bool), plainL (ws.map fun q => row3 (namD q)) = true ∧ depDL (ws.map fun q => row3 (namD q)) ≤ 1
  | [] => ⟨rfl, Nat.zero_le _⟩
  | q :: ws => by
    obtain ⟨h1, h2⟩ := plain_rows ws
    have e : row3 (namD q) = .tup [.str (tx (prodT q.1)), .bl q.2.1, .bl q.2.2] := rfl
    rw [List.map_cons, e]
    refine ⟨?_, ?_⟩
    · simp only [plainL, h1]
      rfl
    · show max (depD (.tup [.str (tx (prodT q.1)), .bl q.2.1, .bl q.2.2])) (depDL (ws.map fun q => row3 (namD q))) ≤ 1
      have : depD (.tup [.str (tx (prodT q.1)), .bl q.2.1, .bl q.2.2]) = 1 := rfl
      omega
theorem frm_plain (n : Nd) : ∃ l, frmD n = .tup l ∧ plainL l = true ∧ depDL l ≤ 70 := by
  obtain ⟨ws, pw, e⟩ := perm_mapD (srtR_perm ((namN [] n).map namD)) rfl
  obtain ⟨h1, h2⟩ := plain_rows ws
  refine ⟨_, ?_, h1, by omega⟩
  unfold frmD
  rw [e, List.map_map]
  rfl
theorem prs_ok {ts : List JW.T} {f : JW.T} (hf : Op f ∧ f.size ≤ 8) (ht : ∀ t ∈ ts, Op t ∧ t.size ≤ 6) (hl : ts.length ≤ 11) : Prs (prsOf (f :: ts)) := by
  have hz : ∀ t ∈ f :: ts, Op t ∧ t.size ≤ 100 := fun t h => by
    rcases List.mem_cons.mp h with rfl | h
    · exact ⟨hf.1, by omega⟩
    · have := ht t h
      exact ⟨this.1, by omega⟩
  have h1 := prs_all hz
  refine ⟨?_, fun p hp => (h1 p hp).1, fun p hp => (h1 p hp).2.1, fun p hp => (h1 p hp).2.2⟩
  have e := prs_app [f] ts
  have l1 := prs_len 2 (ts := [f]) fun t h => by rw [List.mem_singleton.mp h]; exact ⟨hf.1, by omega⟩
  have l2 := prs_len 1 (ts := ts) fun t h => ⟨(ht t h).1, by have := (ht t h).2; omega⟩
  have e2 : [f] ++ ts = f :: ts := rfl
  rw [e2] at e
  have e3 : [f].length = 1 := rfl
  omega
theorem text_p39 : ("()" : Str) = tx (.bas []) := by decide +kernel
theorem pick_2T {x y : JW.T} {i : Int} (h0 : 0 ≤ i) (h1 : i < 2) : ∃ z : JW.T, (z = x ∨ z = y) ∧ atI [D.tree x, D.tree y] i = some (.tree z) := by
  obtain ⟨k, rfl⟩ := Int.eq_ofNat_of_zero_le h0
  match k, h1 with
  | 0, _ => exact ⟨x, .inl rfl, rfl⟩
  | 1, _ => exact ⟨y, .inr rfl, rfl⟩
  | k + 2, h => exact absurd h (by omega)
theorem pick_2D {x y : D} {i : Int} (h0 : 0 ≤ i) (h1 : i < 2) : ∃ z : D, (z = x ∨ z = y) ∧ atI [x, y] i = some z := by
  obtain ⟨k, rfl⟩ := Int.eq_ofNat_of_zero_le h0
  match k, h1 with
  | 0, _ => exact ⟨x, .inl rfl, rfl⟩
  | 1, _ => exact ⟨y, .inr rfl, rfl⟩
  | k + 2, h => exact absurd h (by omega)
theorem op_opn {t : JW.T} (h : Can t) (o : opn t = true) : Op t := ⟨h, by unfold opn at o; have := of_decide_eq_true o; omega⟩
theorem opS_of {ts : List JW.T} {t : JW.T} (ht : t ∈ ts) (h : Op t) (hz : t.size ≤ 10) : OpS (prsOf ts) t := by
  have h1 := dep_le_size t
  have h2 := word_short h
  exact ⟨h, by omega, by omega, by omega, fun p hp => prs_mem ht h hp⟩
theorem ref_no {g : Int} {f : JW.T} {ts : List JW.T} (hf : 0 < f.jts) (ht : ∀ u ∈ ts, 0 < u.jts) : refB g f ts = false := by
  unfold refB
  split
  · exact List.any_eq_false.mpr fun u hm => by
      have := ht u hm
      simp only [decide_eq_true_eq]
      omega
  · exact decide_eq_false (by omega)
theorem ref_yes {g : Int} {f z : JW.T} {ts : List JW.T} (hf : f.jts = 0) (hz : z ∈ ts) (hj : z.jts = 0) : refB g f ts = true := by
  unfold refB
  split
  · exact List.any_eq_true.mpr ⟨z, hz, decide_eq_true hj⟩
  · exact decide_eq_true hf
theorem frm_same (n : Nd) {L : Store} {Q : AQ} (q : Q (.bl false) L) : eqG true (frmD n) (frmD n) L Q := by
  obtain ⟨l, e, h1, h2⟩ := frm_plain n
  rw [e]
  exact eqSq_self h1 h2 q
theorem frm_var {n : Nd} {env : En} {i : Nat} {L : Store} {k : Bool → Store → Prop} (h : env[i]? = some (some (frmD n))) (q : k false L) : aVar i env L (fun e L2 => eqG true (frmD n) e L2 fun d2 L1 => blD d2 fun b => k b L1) := by
  unfold aVar
  rw [h]
  exact frm_same n q
def sp_law (K : PySem.W.Frag) : Sp := fun vs H Q _ => ∃ (a : Addr) (ns : List Int), vs = [.ref a] ∧ SqL K H a (ns.map V.int) ∧ ns.length ≤ 63 ∧ LamX.Tabs (TT K) H ∧ ∀ H', Q (.bl true) H'
theorem fn_law (T : Txt K mg base) {f : Addr} {fd : FuncData} (F : FunD K "law" "law" (defArgs s_law) (defBody s_law) (defScope s_law) [] [] f fd) : FnOk P w K mg base CX0 201 f fd ["_law_script"] (sp_law K) := by
  refine okF F sc_law (fun vs H Q E h => ?_) (fun cdv A outer s H vs Q E hr h => ?_)
  · obtain ⟨a, ns, rfl, _⟩ := h
    rfl
  · obtain ⟨a, ns, rfl, hS, hlen, hT, k⟩ := h
    have hb : ASs (cxOf CX0 P w K mg base ["_law_script", "_law_k", "_law_feed_here", "_law_opened", "_law_closed_here", "_law_first", "_law_kind", "_law_before", "_law_parts", "_law_form", "_law_told", "_law_other", "_law_turn"] "law" (defScope s_law) f cdv A outer s H E).nox (cA K (some (a, ns))) H (defBody s_law) _ := (as_cons (as_for PassesOwn.never rfl (ai_rng1 (by rfl) T.n_range (aa_cons (ae_b (acb_max rfl) (by rfl) T.n_max (by decide +kernel) (aa_cons ae_int (aa_cons (ae_b (acb_min rfl) (by rfl) T.n_min (by decide +kernel) (aa_cons ae_int (aa_cons (ae_b acb_len (by rfl) T.n_len (by decide +kernel) (aa_cons (av 0) aa_nil)) aa_nil))) aa_nil))) aa_nil)) (ag_name (i := 1) sc_law.nd rfl (by first | exact Or.inl rfl | exact Or.inr rfl))
        (as_cons (as_set (i := 2) sc_law.nd rfl (by first | exact Or.inl rfl | exact Or.inr rfl) (ae_call (okA__law_feed T) (hr.mono (by decide)) (by rfl) (aa_cons (av 0) (aa_cons (av 1) aa_nil))))
        (as_cons (as_setLc (own := [("_law_turn", 12)]) (i := 3) (by rfl) sc_law.nd rfl rfl (sw_true rfl rfl rfl (by decide +kernel)) (ai_rng1 (by rfl) T.n_range (aa_cons (ae_call (okA__law_draw T) (hr.mono (by decide)) (by rfl) (aa_cons (av 2) (aa_cons ae_int aa_nil))) aa_nil)) (blkOk_by (by kernel_rfl)) (tgOk_name (by decide)) (fun _ _ _ _ _ => pg_name (i := 12) sc_law.nd rfl (by first | exact Or.inl rfl | exact Or.inr rfl)) (fun _ _ _ _ _ => (ae_make (dd := []) (asp := aspRead) (ok_Fountain___init___read T) (hr.mono (by decide)) (by rfl) (aa_cons (ae_call (okA__law_open T) (hr.mono (by decide)) (by rfl) (aa_cons (av 2) (aa_cons ae_int aa_nil))) aa_nil) mkA_read)))
        (as_cons (as_par (i := 4) (j := 5) (by rfl) sc_law.nd rfl rfl (by decide) rfl rfl (aa_cons (ae_make (dd := []) (asp := aspRead) (ok_Fountain___init___read T) (hr.mono (by decide)) (by rfl) (aa_cons (ae_call (okA__law_closed T) (hr.mono (by decide)) (by rfl) (aa_cons (av 2) (aa_cons ae_int aa_nil))) aa_nil) mkA_read) (aa_cons (ae_make (dd := []) (asp := aspRead) (ok_Fountain___init___read T) (hr.mono (by decide)) (by rfl) (aa_cons (ae_call (okA__law_open T) (hr.mono (by decide)) (by rfl) (aa_cons (av 2) (aa_cons ae_int aa_nil))) aa_nil) mkA_read) aa_nil)) (by rfl))
        (as_cons (as_set (i := 6) sc_law.nd rfl (by first | exact Or.inl rfl | exact Or.inr rfl) (ae_op (aop_ownM (op := .BitOr) T.o_Kind.sf (okA_Kind___or__ T) (hr.mono (by decide))) (ae_cmP (by rfl) T.o_Kind.g (okA_Kind_ending T) (hr.mono (by decide)) passA_no (aa_cons (av 5) aa_nil)) (ae_cmP (by rfl) T.o_Kind.g (okA_Kind_of T) (hr.mono (by decide)) passA_no (aa_cons (av 3) aa_nil))))
        (as_cons (as_set (i := 7) sc_law.nd rfl (by first | exact Or.inl rfl | exact Or.inr rfl) (ae_meth0M (K := K) rfl T.o_Kind.c (okA_Kind_form T) (hr.mono (by decide)) (av 6)))
        (as_cons (as_set (i := 8) sc_law.nd rfl (by first | exact Or.inl rfl | exact Or.inr rfl) (ae_ty acb_list (by rfl) T.n_list (by decide +kernel) (aa_cons (av 3) aa_nil)))
        (as_cons (as_expr (ae_ml PySem.F.plainAttrs_list PySem.F.slot_list_insert PySem.F.type_list_insert mt_insert low_insert (av 8) (aa_cons (ae_call (okA__law_draw T) (hr.mono (by decide)) (by rfl) (aa_cons (av 2) (aa_cons (ae_op aop_add (ae_b acb_len (by rfl) T.n_len (by decide +kernel) (aa_cons (av 8) aa_nil)) ae_int) aa_nil))) (aa_cons (ae_ix (ae_lst (aa_cons (av 4) (aa_cons (ae_make (dd := []) (asp := aspRead) (ok_Fountain___init___read T) (hr.mono (by decide)) (by rfl) (aa_cons ae_str aa_nil) mkA_read) aa_nil))) (ae_call (okA__law_draw T) (hr.mono (by decide)) (by rfl) (aa_cons (av 2) (aa_cons ae_int aa_nil))) (fun _ _ => rfl)) aa_nil))))
        (as_cons (as_for PassesOwn.never rfl (ai_list (ae_call (okA__law_mixed T) (hr.mono (by decide)) (by rfl) (aa_cons (av 2) (aa_cons (ae_listRg (by rfl) (by rfl) T.n_list (by rfl) T.n_range ae_int) aa_nil)))) (ag_name (i := 9) sc_law.nd rfl (by first | exact Or.inl rfl | exact Or.inr rfl))
          (as_cons (as_set (i := 10) sc_law.nd rfl (by first | exact Or.inl rfl | exact Or.inr rfl) (ae_ix (ae_lst (aa_cons (av 8) (aa_cons (ae_ty acb_tup (by rfl) T.n_tuple (by decide +kernel) (aa_cons (av 8) aa_nil)) aa_nil))) (ae_call (okA__law_draw T) (hr.mono (by decide)) (by rfl) (aa_cons (av 2) (aa_cons ae_int aa_nil))) (fun _ _ => rfl)))
          (as_cons (as_if (at_bl (ae_call (okA__law_refused T) (hr.mono (by decide)) (by rfl) (aa_cons (av 9) (aa_cons (av 6) (aa_cons (av 5) (aa_cons (av 3) aa_nil))))))
            (as_one (as_ret ae_bl))
            as_nil)
          (as_one (as_for PassesOwn.never rfl (ai_tup (ae_tup (aa_cons (av 6) (aa_cons (ae_cm0M (by rfl) T.o_Kind.g (okA_Kind_none T) (hr.mono (by decide))) (aa_cons (ae_cmP (by rfl) T.o_Kind.g (okA_Kind_of T) (hr.mono (by decide)) passA_no (aa_cons (ae_lst (aa_cons (av 5) aa_nil)) aa_nil)) aa_nil))))) (ag_name (i := 11) sc_law.nd rfl (by first | exact Or.inl rfl | exact Or.inr rfl))
            (as_one (as_if (at_not (at_bl (ae_call (okA__law_refused T) (hr.mono (by decide)) (by rfl) (aa_cons (av 9) (aa_cons (av 11) (aa_cons (av 4) (aa_cons (av 10) aa_nil)))))))
              (as_one (as_ret ae_bl))
              as_nil)))))))
        (as_one (as_if (at_via (AW.pt (aw_or (at_cmp (aop_neG T.cls (okF_eq T) (hr.mono (by decide)) hr.units) (ae_meth0M (K := K) rfl T.o_Kind.c (okA_Kind_form T) (hr.mono (by decide)) (av 6)) (av 7) (nomark _)) (aw_or1 (at_cmp (aop_neG T.cls (okF_eq T) (hr.mono (by decide)) hr.units) (ae_b acb_len (by rfl) T.n_len (by decide +kernel) (aa_cons (av 8) aa_nil)) (ae_op aop_add (ae_b acb_len (by rfl) T.n_len (by decide +kernel) (aa_cons (av 3) aa_nil)) ae_int) (nomark _))))))
          (as_one (as_ret ae_bl))
          as_nil)))))))))))
      (as_one (as_ret (ae_and (ae_cmp (aop_eqM (K := K) (x := "Kind") rfl T.cls (okA_Kind___eq__ T) (hr.mono (by decide))) (ae_cmP (by rfl) T.o_Kind.g (okA_Kind_of T) (hr.mono (by decide)) passA_no (aa_cons (ae_lst aa_nil) aa_nil)) (ae_cm0M (by rfl) T.o_Kind.g (okA_Kind_none T) (hr.mono (by decide))) (nomark _)) (ae_one (ae_cmp (aop_eqM (K := K) (x := "Kind") rfl T.cls (okA_Kind___eq__ T) (hr.mono (by decide))) (ae_cmP (by rfl) T.o_Kind.g (okA_Kind_of T) (hr.mono (by decide)) passA_no (aa_cons (ae_tup aa_nil) aa_nil)) (ae_cm0M (by rfl) T.o_Kind.g (okA_Kind_none T) (hr.mono (by decide))) (nomark _)))))))
    refine ⟨_, hb, ?_⟩
    refine law_low (c := cA K (some (a, ns))) rfl hlen hS hT (fun H' => k H') ?_
    clear hb
    have hsl := sizeLine_eq
    refine fun n hn => ⟨?_, ?_, ?_⟩
    · split <;> split <;> omega
    · split <;> split <;> omega
    have hm : (if (if (n : Int) < 4 then (n : Int) else 4) > 2 then (if (n : Int) < 4 then (n : Int) else 4) else 2).toNat ≤ 4 := by
      split <;> split <;> omega
    refine loop_map (fun i : Nat => D.int (0 + (i : Nat))) (List.range (if (if (n : Int) < 4 then (n : Int) else 4) > 2 then (if (n : Int) < 4 then (n : Int) else 4) else 2).toNat) (fun _ env _ => ∃ x1 x2 x3 x4 x5 x6 x7 x8 x9 x10 x11 x12 : Option D, env = [some D.scr, x1, x2, x3, x4, x5, x6, x7, x8, x9, x10, x11, x12]) (fun _ _ _ _ => trivial) ?step1 ?fin1 _ _ ⟨_, _, _, _, _, _, _, _, _, _, _, _, rfl⟩
    case fin1 =>
      rintro env L ⟨x1, x2, x3, x4, x5, x6, x7, x8, x9, x10, x11, x12, rfl⟩
      have hS0 : Prs ([] : List JW.T) := ⟨Nat.zero_le _, fun p h => absurd h List.not_mem_nil, fun p h => absurd h List.not_mem_nil, fun p h => absurd h List.not_mem_nil⟩
      have ee : eqDD (Nd.uni false).d (Nd.uni false).d = some true := by rw [Nd.d_uni]; decide +kernel
      have ed : depD (Nd.uni false).d ≤ 71 := by rw [Nd.d_uni]; decide +kernel
      refine ⟨Nat.zero_le _, fun p hp => ?_⟩
      refine ⟨[], rfl, .inr ⟨p, rfl, sput_same⟩, fun ⟨t, ht, _⟩ => absurd ht List.not_mem_nil, fun _ => ⟨[], hS0, fun t ht => absurd ht List.not_mem_nil, fun q L2 sb hq => ?_⟩⟩
      refine ⟨rfl, fun r hr => ⟨⟨_, _, sput_old sput_same hr⟩, ⟨_, _, sput_same⟩, ?_⟩⟩
      refine ⟨Nd.uni false, Nd.uni false, true, sput_old sput_same hr, sput_same, ee, ed, ite_t (B := True) rfl ?_⟩
      refine ⟨Nat.zero_le _, [], rfl, .inl rfl, fun ⟨t, ht, _⟩ => absurd ht List.not_mem_nil, fun _ => ⟨[], hS0, fun t ht => absurd ht List.not_mem_nil, fun q2 L3 sb2 hq2 => ?_⟩⟩
      refine ⟨rfl, fun r2 hr2 => ⟨⟨_, _, sput_old sput_same hr2⟩, ⟨_, _, sput_same⟩, ?_⟩⟩
      exact ⟨Nd.uni false, Nd.uni false, true, sput_old sput_same hr2, sput_same, ee, ed, (⟨_, SubS.refl _, rfl⟩ : ∃ L0, SubS L0 _ ∧ D.bl true = D.bl true)⟩
    case step1 =>
      intro pre i rest nn e kn env L ⟨x1, x2, x3, x4, x5, x6, x7, x8, x9, x10, x11, x12, ee⟩
      subst ee
      have hi : i < 4 := by
        have : i ∈ List.range (if (if (n : Int) < 4 then (n : Int) else 4) > 2 then (if (n : Int) < 4 then (n : Int) else 4) else 2).toNat := by
          rw [e]
          simp
        have := List.mem_range.mp this
        omega
      refine ⟨by omega, by omega, fun d hd => ⟨sput_same, by decide, by decide, fun j j0 j1 => ⟨by omega, by omega, fun P hP => ?_⟩⟩⟩
      have fed0 : sput L d feedM d = some feedM := sput_same
      refine comp_accP (fun x => ∃ t, x = .tree t ∧ (Op t ∧ t.size ≤ 6)) (fun l => trivial) _ [] (by rw [rngD_len]; show 0 + _ ≤ _; omega) (fun x hx l kk hk => ?_) (fun x hx => absurd hx List.not_mem_nil) (fun xs hl hx => ?_)
      · refine ⟨rfl, sput_old fed0 hP, by decide, by decide, fun t ct ot zt => ⟨t, rfl, by omega, by have := dep_le_size t; omega, ?_⟩⟩
        rw [can_canon t ct]
        exact hk _ ⟨t, rfl, op_opn ct ot, by omega⟩
      obtain ⟨ts, rfl, hts⟩ := exTs hx
      have htl : ts.length ≤ 11 := by
        rw [List.length_map, rngD_len] at hl
        show _ ≤ _
        have : ([] : List D).length = 0 := rfl
        omega
      have fed1 := sput_old (n := .lst (ts.map D.tree)) fed0 hP
      have hP1 : sput (sput L d feedM) P (.lst (ts.map D.tree)) P = some (.lst (ts.map D.tree)) := sput_same
      show agName 3 (D.ref P) _ (sput (sput L d feedM) P (.lst (ts.map D.tree))) _
      generalize sput (sput L d feedM) P (.lst (ts.map D.tree)) = L1 at fed1 hP1 ⊢
      refine ⟨fed1, by decide, by decide, fun c cc cj cz => ⟨c, rfl, by omega, by have := dep_le_size c; omega, ?_⟩⟩
      rw [can_canon c cc]
      refine ⟨fed1, by decide, by decide, fun f cf of zf => ⟨f, rfl, by omega, by have := dep_le_size f; omega, ?_⟩⟩
      rw [can_canon f cf]
      have opf := op_opn cf of
      have zf : f.size ≤ 8 := by omega
      have hS := prs_ok ⟨opf, zf⟩ hts htl
      have osf : OpS (prsOf (f :: ts)) f := opS_of List.mem_cons_self opf (by omega)
      have ost : ∀ t ∈ ts, OpS (prsOf (f :: ts)) t := fun t h => opS_of (List.mem_cons_of_mem _ h) (hts t h).1 (by have := (hts t h).2; omega)
      have k1 : KOk (prsOf (f :: ts)) 10 11 ((Nd.uni true).endN f.word) := KOk.ending true opf (by omega) osf.2.2.2.1 osf.2.2.2.2
      have k2 : KOk (prsOf (f :: ts)) 10 (1 + 10 * ts.length) (ofN ts) := KOk.of (by decide) fun t h => ⟨(hts t h).1, by have := (hts t h).2; omega, (ost t h).2.2.2.1, (ost t h).2.2.2.2⟩
      have k3 := KOk.jn "|" (by decide) k1 k2
      have k4 : KOk (prsOf (f :: ts)) 10 1000000 (Nd.jn "|" 21 ((Nd.uni true).endN f.word) (ofN ts)) := k3.mono (Nat.le_refl _) (by omega)
      -- the kind
      have fj : 0 < f.jts := by have := opf.2; omega
      refine ⟨rfl, fun z => absurd z opf.2, fun _ => ⟨opf, osf.2.1, osf.2.2.1, by have := osf.2.2.2.1; omega, fun p1 hp1 => ?_⟩⟩
      refine ⟨ts, rfl, .inr ⟨P, rfl, sput_old hP1 hp1⟩, fun ⟨t, ht, z⟩ => absurd z (hts t ht).1.2, fun _ => ⟨prsOf (f :: ts), hS, fun t ht => ?_, fun p2 L2 sb2 hp2 => ?_⟩⟩
      · obtain ⟨o1, o2, o3, o4, o5⟩ := ost t ht
        exact ⟨o1, o2, o3, by omega, o5⟩
      have q1 := sb2 _ _ (sput_same (L := L1) (p := p1) (m := KdM K ((Nd.uni true).endN f.word)))
      refine ⟨⟨_, _, sput_old q1 hp2⟩, ⟨_, _, sput_same⟩, prsOf (f :: ts), _, _, sput_old q1 hp2, sput_same, hS, k1.wf.mono (by decide), k2.wf.mono (by decide), fun p3 hp3 => ⟨rfl, ?_⟩⟩
      have sb3 : SubS L1 (sput (sput L2 p2 (KdM K (ofN ts))) p3 (KdM K (Nd.jn "|" 21 ((Nd.uni true).endN f.word) (ofN ts)))) := ((((SubS.refl L1).new hp1).trans sb2).new hp2).new hp3
      have hk : sput (sput L2 p2 (KdM K (ofN ts))) p3 (KdM K (Nd.jn "|" 21 ((Nd.uni true).endN f.word) (ofN ts))) p3 = some (KdM K (Nd.jn "|" 21 ((Nd.uni true).endN f.word) (ofN ts))) := sput_same
      show agName 6 (D.ref p3) _ (sput (sput L2 p2 (KdM K (ofN ts))) p3 (KdM K (Nd.jn "|" 21 ((Nd.uni true).endN f.word) (ofN ts)))) _
      generalize sput (sput L2 p2 (KdM K (ofN ts))) p3 (KdM K (Nd.jn "|" 21 ((Nd.uni true).endN f.word) (ofN ts))) = L3 at sb3 hk ⊢
      generalize Nd.jn "|" 21 ((Nd.uni true).endN f.word) (ofN ts) = nd at k4 hk ⊢
      have fed3 := sb3 _ _ fed1
      have hP3 := sb3 _ _ hP1
      -- its form, the parts
      refine ⟨⟨_, _, hk, by decide⟩, prsOf (f :: ts), 10, nd, hk, by decide, k4, ?_⟩
      refine ⟨_, hP3, fun PP hPP => ?_⟩
      have fed4 := sput_old (n := .lst (ts.map D.tree)) fed3 hPP
      refine ⟨⟨PP, _, rfl, sput_same⟩, _, sput_same, fed4, by rw [List.length_map]; omega, by rw [List.length_map]; omega, fun y y0 y1 => ?_⟩
      refine ⟨JW.T.bas [], text_p39, by decide, by decide, ?_⟩
      rw [show (JW.T.bas []).canon = JW.T.bas [] by decide +kernel]
      refine ⟨by show (2 : Nat) ≤ sizeLine; omega, fun q hq => ⟨sput_old fed4 hq, by decide, by decide, fun x x0 x1 => ?_⟩⟩
      obtain ⟨z, hz, hat⟩ := pick_2T (x := c) (y := .bas []) x0 x1
      have zj : z.jts = 0 := by
        rcases hz with e | e
        · rw [e]; exact cj
        · rw [e]; rfl
      have hpq : PP ≠ q := fun e => by rw [← e, sput_same] at hq; cases hq
      refine ⟨_, _, sput_same, hat, _, sput_old sput_same hq, by rw [List.length_map]; omega, y0, by rw [List.length_map] at y1; omega, ?_⟩
      have eus : (ts.map D.tree).take y.toNat ++ [D.tree z] ++ (ts.map D.tree).drop y.toNat = (ts.take y.toNat ++ [z] ++ ts.drop y.toNat).map D.tree := by
        rw [List.map_append, List.map_append, List.map_take, List.map_drop]
        rfl
      rw [eus]
      have usl : (ts.take y.toNat ++ [z] ++ ts.drop y.toNat).length = ts.length + 1 := by
        rw [List.length_append, List.length_append, List.length_take, List.length_drop]
        have : ([z] : List JW.T).length = 1 := rfl
        omega
      have zus : z ∈ ts.take y.toNat ++ [z] ++ ts.drop y.toNat := List.mem_append_left _ (List.mem_append_right _ (List.mem_singleton.mpr rfl))
      generalize ts.take y.toNat ++ [z] ++ ts.drop y.toNat = us at usl zus ⊢
      have fedA : sput (sput (sput L3 PP (.lst (ts.map D.tree))) q (.lst [.tree c, .tree (.bas [])])) PP (.lst (us.map D.tree)) d = some feedM := by
        have : d ≠ PP := fun e => by rw [e, hPP] at fed3; cases fed3
        rw [sput_ne this]
        exact sput_old fed4 hq
      have hkA : sput (sput (sput L3 PP (.lst (ts.map D.tree))) q (.lst [.tree c, .tree (.bas [])])) PP (.lst (us.map D.tree)) p3 = some (KdM K nd) := by
        have : p3 ≠ PP := fun e => by rw [e, hPP] at hk; cases hk
        rw [sput_ne this]
        exact sput_old (sput_old hk hPP) hq
      have hPA : sput (sput (sput L3 PP (.lst (ts.map D.tree))) q (.lst [.tree c, .tree (.bas [])])) PP (.lst (us.map D.tree)) P = some (.lst (ts.map D.tree)) := by
        have : P ≠ PP := fun e => by rw [e, hPP] at hP3; cases hP3
        rw [sput_ne this]
        exact sput_old (sput_old hP3 hPP) hq
      have hUA : sput (sput (sput L3 PP (.lst (ts.map D.tree))) q (.lst [.tree c, .tree (.bas [])])) PP (.lst (us.map D.tree)) PP = some (.lst (us.map D.tree)) := sput_same
      generalize sput (sput (sput L3 PP (.lst (ts.map D.tree))) q (.lst [.tree c, .tree (.bas [])])) PP (.lst (us.map D.tree)) = LA at fedA hkA hPA hUA ⊢
      refine ⟨4, rfl, by decide, fun g hg => ⟨sput_old fedA hg, rngD 0 4, .inr ⟨g, rfl, sput_same⟩, by decide, by decide, fun m r pm hr => ⟨m, sput_same, ?_⟩⟩⟩
      obtain ⟨fs, pf, rfl⟩ := perm_mapD pm rfl
      have sbA : SubS LA (sput (sput LA g (.lst (rngD 0 4))) r (.lst (fs.map fun i : Nat => D.int (0 + (i : Nat))))) := ((SubS.refl LA).new hg).new hr
      have hr5 : sput (sput LA g (.lst (rngD 0 4))) r (.lst (fs.map fun i : Nat => D.int (0 + (i : Nat)))) r = some (.lst (fs.map fun i : Nat => D.int (0 + (i : Nat)))) := sput_same
      generalize sput (sput LA g (.lst (rngD 0 4))) r (.lst (fs.map fun i : Nat => D.int (0 + (i : Nat)))) = L5 at sbA hr5 ⊢
      refine loop_map (fun i : Nat => D.int (0 + (i : Nat))) fs (fun _ env L' => SubS L5 L' ∧ ∃ y9 y10 y11 y12 : Option D, env = [some .scr, some (.int (0 + (i : Nat))), some (.ref d), some (.ref P), some (.tree c), some (.tree f), some (.ref p3), some (frmD nd), some (.ref PP), y9, y10, y11, y12]) (fun _ _ _ h => h.1 _ _ hr5) ?step2 ?fin2 _ _ ⟨SubS.refl _, _, _, _, _, rfl⟩
      case fin2 =>
        rintro env Lx ⟨sb, y9, y10, y11, y12, rfl⟩
        have sx := sbA.trans sb
        refine ⟨fun k _ => k = false, ⟨⟨_, _, sx _ _ hkA, by decide⟩, prsOf (f :: ts), 10, nd, sx _ _ hkA, by decide, k4, ?_⟩, fun k L' ek => ite_f ek (kn _ _ ⟨_, _, _, _, _, _, _, _, _, _, _, _, rfl⟩)⟩
        refine frm_var rfl ?_
        refine ite_f (b := false) rfl ⟨_, sx _ _ hUA, _, sx _ _ hPA, ?_⟩
        show (true ^^ decide ((((us.map D.tree).length : Nat) : Int) = (((ts.map D.tree).length : Nat) : Int) + 1)) = false
        rw [List.length_map, List.length_map, usl, decide_eq_true (by omega)]
        rfl
      case step2 =>
        rintro pre2 i2 rest2 n2 e2 kn2 env Lx ⟨sb, y9, y10, y11, y12, rfl⟩
        have sx := sbA.trans sb
        refine ⟨_, sx _ _ hUA, by show (2 : Nat) ≤ sizeLine; omega, fun q2 hq2 => ⟨sput_old (sx _ _ fedA) hq2, by decide, by decide, fun w w0 w1 => ?_⟩⟩
        obtain ⟨told, htold, hat2⟩ := pick_2D (x := .ref PP) (y := .tup (us.map D.tree)) w0 w1
        refine ⟨_, _, sput_same, hat2, ?_⟩
        have sy := sx.new (m := .lst [.ref PP, .tup (us.map D.tree)]) hq2
        have sb2' := sb.new (m := .lst [.ref PP, .tup (us.map D.tree)]) hq2
        show agName 10 told _ (sput Lx q2 (.lst [.ref PP, .tup (us.map D.tree)])) _
        generalize sput Lx q2 (.lst [.ref PP, .tup (us.map D.tree)]) = Ly at sy sb2' ⊢
        refine ⟨prsOf (f :: ts), nd, ts, hS, sy _ _ hkA, k4.wf, .inr ⟨P, rfl, sy _ _ hPA⟩, fun _ => osf, fun _ => ost, ite_f (ref_no fj fun u hu => by have := (hts u hu).1.2; omega) ?_⟩
        refine ⟨rfl, fun r1 hr1 => ⟨by show (1 : Nat) ≤ sizeLine; omega, fun r2 hr2 => ⟨[f], rfl, .inr ⟨r2, rfl, sput_same⟩, fun ⟨t, ht, z⟩ => absurd z (by rw [List.mem_singleton.mp ht]; exact opf.2), fun _ => ⟨prsOf (f :: ts), hS, fun t ht => ?_, fun r3 L6 sb6 hr3 => ⟨by show (3 : Nat) ≤ sizeLine; omega, ?_⟩⟩⟩⟩⟩
        · rw [List.mem_singleton.mp ht]
          obtain ⟨o1, o2, o3, o4, o5⟩ := osf
          exact ⟨o1, o2, o3, by omega, o5⟩
        have s1 := sb6 _ _ (sput_old (n := .lst [.tree f]) (sput_same (L := Ly) (p := r1) (m := KdM K (Nd.uni false))) hr2)
        have sz : SubS Ly (sput L6 r3 (KdM K (ofN [f]))) := ((((SubS.refl Ly).new hr1).new hr2).trans sb6).new hr3
        have sLA := sy.trans sz
        have hi3 : ∀ p ∈ [p3, r1, r3], ∃ n', sput L6 r3 (KdM K (ofN [f])) p = some (KdM K n') ∧ Nd.Wf (prsOf (f :: ts)) 10 n' := fun p hp => by
          simp only [List.mem_cons, List.not_mem_nil, or_false] at hp
          rcases hp with e | e | e
          · rw [e]; exact ⟨nd, sLA _ _ hkA, k4.wf⟩
          · rw [e]; exact ⟨_, sput_old s1 hr3, Nd.wf_uni _ _ _⟩
          · rw [e]; exact ⟨_, sput_same, wf_ofN (by decide) [f] (Nd.wf_uni _ false _) fun t ht => by rw [List.mem_singleton.mp ht]; exact osf.2.2.2⟩
        have s5 := sb2'.trans sz
        generalize sput L6 r3 (KdM K (ofN [f])) = L7 at sLA hi3 s5 ⊢
        refine loop_map D.ref [p3, r1, r3] (fun _ env L' => L' = L7 ∧ ∃ y11 y12 : Option D, env = [some .scr, some (.int (0 + (i : Nat))), some (.ref d), some (.ref P), some (.tree c), some (.tree f), some (.ref p3), some (frmD nd), some (.ref PP), some (.int (0 + (i2 : Nat))), some told, y11, y12]) (fun _ _ _ _ => trivial) ?step3 ?fin3 _ _ ⟨rfl, _, _, rfl⟩
        case fin3 =>
          rintro env L' ⟨rfl, y11, y12, rfl⟩
          exact kn2 _ _ ⟨s5, _, _, _, _, rfl⟩
        case step3 =>
          rintro pre3 p rest3 n3 e3 kn3 env L' ⟨rfl, y11, y12, rfl⟩
          obtain ⟨n', h1, h2⟩ := hi3 p (by rw [e3]; simp)
          have ht : told = .tup (us.map D.tree) ∨ ∃ p, told = .ref p ∧ L' p = some (.lst (us.map D.tree)) := htold.elim (fun e => .inr ⟨PP, e, sLA _ _ hUA⟩) .inl
          refine ⟨prsOf (f :: ts), n', us, hS, h1, h2, ht, fun h => absurd h (by omega), fun h => absurd (h z zus) (by omega), ite_f (by rw [ref_yes cj zus zj]; rfl) ?_⟩
          exact kn3 _ _ ⟨rfl, _, _, rfl⟩
end
theorem txt_of {K : PySem.W.Frag} {h h0 base : Heap} {mg : Str → Option Value} (X : K.In h) (G : h.Ns mainGlobals mg) (c : SaysE fa fn tf ex fx h0 K) (TB : ∀ p ∈ tf.map (cT K), LamX.TabB base mg p.1 p.2) : Txt K mg base where
  cls := clsF_of (glo_ok X G (c.d.fact 0 (f := .glo "Fountain") rfl)) (cls_ok (c.d.fact 1 (f := .cls "Fountain") rfl)) (noat_ok (c.d.fact 2 (f := .noat "Fountain" "written") rfl)) (noat_ok (c.d.fact 3 (f := .noat "Fountain" "branches") rfl)) (noat_ok (c.d.fact 4 (f := .noat "Fountain" "numbers") rfl)) (exs c).1
  o_Kind := clsO_of (glo_ok X G (c.d.fact 5 (f := .glo "Kind") rfl)) (cls_ok (c.d.fact 6 (f := .cls "Kind") rfl)) (of_decide_eq_true (all_at (ba c.more).1 6 (a := fun K : PySem.W.Frag => decide (clsX K "Kind" = true)) rfl))
  na_Kind_node := noat_ok (c.d.fact 7 (f := .noat "Kind" "node") rfl)
  gMOST := int_ok X G (c.d.fact 8 (f := .int "MOST" 5000) rfl)
  gDEEPEST := int_ok X G (c.d.fact 9 (f := .int "DEEPEST" 120) rfl)
  gJET_TEXT := str_ok X G (c.d.fact 10 (f := .str "JET_TEXT" "o") rfl)
  e_Closed := by
    obtain ⟨fd, F⟩ := c.d.def_ 0 (d := dfn "Closed" (some "__init__") "__init__" "Closed.__init__" s_Closed___init__ [] []) rfl
    exact ⟨glo_ok X G (c.d.fact 11 (f := .glo "Closed") rfl), (errB_ok (all_at (exs c).2.2.2.1 0 (a := "Closed") rfl)).1, _, fd, (errB_ok (all_at (exs c).2.2.2.1 0 (a := "Closed") rfl)).2.1, (errB_ok (all_at (exs c).2.2.2.1 0 (a := "Closed") rfl)).2.2, F, F.bindsN fun _ _ _ _ _ _ us hl => match us, hl with | [_], _ => rfl⟩
  e_TooLarge := by
    obtain ⟨fd, F⟩ := c.d.def_ 1 (d := dfn "TooLarge" (some "__init__") "__init__" "TooLarge.__init__" s_TooLarge___init__ [] []) rfl
    exact ⟨glo_ok X G (c.d.fact 12 (f := .glo "TooLarge") rfl), (errB_ok (all_at (exs c).2.2.2.1 1 (a := "TooLarge") rfl)).1, _, fd, (errB_ok (all_at (exs c).2.2.2.1 1 (a := "TooLarge") rfl)).2.1, (errB_ok (all_at (exs c).2.2.2.1 1 (a := "TooLarge") rfl)).2.2, F, F.bindsN fun _ _ _ _ _ _ us hl => match us, hl with | [_, _], _ => rfl⟩
  na_TooLarge := noat_ok (c.d.fact 13 (f := .noat "TooLarge" "pieces") rfl)
  e_TooDeep := by
    obtain ⟨fd, F⟩ := c.d.def_ 2 (d := dfn "TooDeep" (some "__init__") "__init__" "TooDeep.__init__" s_TooDeep___init__ [] []) rfl
    exact ⟨glo_ok X G (c.d.fact 14 (f := .glo "TooDeep") rfl), (errB_ok (all_at (exs c).2.2.2.1 2 (a := "TooDeep") rfl)).1, _, fd, (errB_ok (all_at (exs c).2.2.2.1 2 (a := "TooDeep") rfl)).2.1, (errB_ok (all_at (exs c).2.2.2.1 2 (a := "TooDeep") rfl)).2.2, F, F.bindsN fun _ _ _ _ _ _ us hl => match us, hl with | [_, _], _ => rfl⟩
  na_TooDeep := noat_ok (c.d.fact 15 (f := .noat "TooDeep" "basins") rfl)
  d_check_numbers := by
    obtain ⟨fd, F⟩ := c.d.def_ 3 (d := dfn "check_numbers" none "check_numbers" "check_numbers" s_check_numbers [] []) rfl
    exact ⟨_, fd, glo_ok X G (c.d.fact 16 (f := .glo "check_numbers") rfl), F, F.bindsN fun _ _ _ _ _ _ us hl => match us, hl with | [_], _ => rfl⟩
  d_basin_numbers := by
    obtain ⟨fd, F⟩ := c.d.def_ 4 (d := dfn "basin_numbers" none "basin_numbers" "basin_numbers" s_basin_numbers [] []) rfl
    exact ⟨_, fd, glo_ok X G (c.d.fact 17 (f := .glo "basin_numbers") rfl), F, F.bindsN fun _ _ _ _ _ _ us hl => match us, hl with | [_], _ => rfl⟩
  d_product_numbers := by
    obtain ⟨fd, F⟩ := c.d.def_ 5 (d := dfn "product_numbers" none "product_numbers" "product_numbers" s_product_numbers [] []) rfl
    exact ⟨_, fd, glo_ok X G (c.d.fact 18 (f := .glo "product_numbers") rfl), F, F.bindsN fun _ _ _ _ _ _ us hl => match us, hl with | [_, _], _ => rfl⟩
  d_parsed := by
    obtain ⟨fd, F⟩ := c.d.def_ 6 (d := dfn "parsed" none "parsed" "parsed" s_parsed [] []) rfl
    exact ⟨_, fd, glo_ok X G (c.d.fact 19 (f := .glo "parsed") rfl), F, F.bindsN fun _ _ _ _ _ _ us hl => match us, hl with | [_], _ => rfl⟩
  d_made := by
    obtain ⟨fd, F⟩ := c.d.def_ 7 (d := dfn "made" none "made" "made" s_made [] []) rfl
    exact ⟨glo_ok X G (c.d.fact 20 (f := .glo "made") rfl), fd, F, F.bindsN fun _ _ _ _ _ _ us hl => match us, hl with | [_], _ => rfl⟩
  tb_made := TB _ (List.mem_map.mpr ⟨("made", none), List.mem_of_getElem? (i := 0) rfl, rfl⟩)
  d_allowed := by
    obtain ⟨fd, F⟩ := c.d.def_ 8 (d := dfn "allowed" none "allowed" "allowed" s_allowed [] []) rfl
    exact ⟨_, fd, glo_ok X G (c.d.fact 21 (f := .glo "allowed") rfl), F, F.bindsN fun _ _ _ _ _ _ us hl => match us, hl with | [_], _ => rfl⟩
  d_grafted := by
    obtain ⟨fd, F⟩ := c.d.def_ 9 (d := dfn "grafted" none "grafted" "grafted" s_grafted [] []) rfl
    exact ⟨_, fd, glo_ok X G (c.d.fact 22 (f := .glo "grafted") rfl), F, F.bindsN fun _ _ _ _ _ _ us hl => match us, hl with | [_, _], _ => rfl⟩
  d_cut := by
    obtain ⟨fd, F⟩ := c.d.def_ 10 (d := dfn "cut" none "cut" "cut" s_cut [] []) rfl
    exact ⟨_, fd, glo_ok X G (c.d.fact 23 (f := .glo "cut") rfl), F, F.bindsN fun _ _ _ _ _ _ us hl => match us, hl with | [_, _], _ => rfl⟩
  d_bare_place := by
    obtain ⟨fd, F⟩ := c.d.def_ 11 (d := dfn "bare_place" none "bare_place" "bare_place" s_bare_place [] []) rfl
    exact ⟨_, fd, glo_ok X G (c.d.fact 24 (f := .glo "bare_place") rfl), F, F.bindsN fun _ _ _ _ _ _ us hl => match us, hl with | [_, _, _], _ => rfl⟩
  d_carries := by
    obtain ⟨fd, F⟩ := c.d.def_ 12 (d := dfn "carries" none "carries" "carries" s_carries [] []) rfl
    exact ⟨_, fd, glo_ok X G (c.d.fact 25 (f := .glo "carries") rfl), F, F.bindsN fun _ _ _ _ _ _ us hl => match us, hl with | [_, _], _ => rfl⟩
  d_multiplied := by
    obtain ⟨fd, F⟩ := c.d.def_ 13 (d := dfn "multiplied" none "multiplied" "multiplied" s_multiplied [] []) rfl
    exact ⟨_, fd, glo_ok X G (c.d.fact 26 (f := .glo "multiplied") rfl), F, F.bindsN fun _ _ _ _ _ _ us hl => match us, hl with | [_], _ => rfl⟩
  init := by
    obtain ⟨fd, F⟩ := c.d.def_ 14 (d := dfn "Fountain" (some "__init__") "__init__" "Fountain.__init__" s_Fountain___init__ [.non] []) rfl
    refine ⟨_, fd, glo_ok X G (c.d.fact 0 (f := .glo "Fountain") rfl), mkr_ok (c.d.fact 27 (f := .mkr "Fountain") rfl), F, fun j hj => ?_⟩
    have e : j = 0 ∨ j = 1 := by
      have h : j ≤ 1 := hj
      omega
    rcases e with rfl | rfl
    · exact F.binds1 2 0 (List.cons_ne_nil _ _) rfl fun _ _ _ _ _ _ _ us its l1 l2 => match us, its, l1, l2 with | [_, _], [_], _, _ => ⟨_, rfl, rfl⟩
    · exact F.binds1 3 1 (List.cons_ne_nil _ _) rfl fun T kV doc pm an cdv ct us its l1 l2 => match us, its, l1, l2 with | [_, _, _], [_], _, _ => ⟨_, rfl, rfl⟩
  c_basin := by
    obtain ⟨fd, F⟩ := c.fxAt 0 (d := ⟨fun K => cgAd K ("Fountain", "basin"), "basin", "Fountain.basin", defArgs s_Fountain_basin, defBody s_Fountain_basin, defScope s_Fountain_basin⟩) rfl
    exact ⟨_, _, _, fd, (cmB_ok (all_at (exs c).2.2.1 0 (a := ("Fountain", "basin")) rfl)).1, (cmB_ok (all_at (exs c).2.2.1 0 (a := ("Fountain", "basin")) rfl)).2, F, F.bindsN fun _ _ _ _ _ _ us hl => match us, hl with | [_, _], _ => rfl⟩
  c_spray := by
    obtain ⟨fd, F⟩ := c.fxAt 1 (d := ⟨fun K => cgAd K ("Fountain", "spray"), "spray", "Fountain.spray", defArgs s_Fountain_spray, defBody s_Fountain_spray, defScope s_Fountain_spray⟩) rfl
    exact ⟨_, _, _, fd, (cmB_ok (all_at (exs c).2.2.1 1 (a := ("Fountain", "spray")) rfl)).1, (cmB_ok (all_at (exs c).2.2.1 1 (a := ("Fountain", "spray")) rfl)).2, F, F.bindsN fun _ _ _ _ _ _ us hl => match us, hl with | [_, _], _ => rfl⟩
  c_product := by
    obtain ⟨fd, F⟩ := c.fxAt 2 (d := ⟨fun K => cgAd K ("Fountain", "product"), "product", "Fountain.product", defArgs s_Fountain_product, defBody s_Fountain_product, defScope s_Fountain_product⟩) rfl
    exact ⟨_, _, _, fd, (cmB_ok (all_at (exs c).2.2.1 2 (a := ("Fountain", "product")) rfl)).1, (cmB_ok (all_at (exs c).2.2.1 2 (a := ("Fountain", "product")) rfl)).2, F, F.bindsN fun _ _ _ _ _ _ us hl => match us, hl with | [_, _], _ => rfl⟩
  p_text := by
    obtain ⟨fd, F⟩ := c.fxAt 3 (d := ⟨fun K => gAd K ("Fountain", "text"), "text", "Fountain.text", defArgs s_Fountain_text, defBody s_Fountain_text, defScope s_Fountain_text⟩) rfl
    exact ⟨_, _, fd, (propB_ok (all_at (exs c).2.1 0 (a := ("Fountain", "text")) rfl)), F, F.bindsN fun _ _ _ _ _ _ us hl => match us, hl with | [_], _ => rfl⟩
  p_parts := by
    obtain ⟨fd, F⟩ := c.fxAt 4 (d := ⟨fun K => gAd K ("Fountain", "parts"), "parts", "Fountain.parts", defArgs s_Fountain_parts, defBody s_Fountain_parts, defScope s_Fountain_parts⟩) rfl
    exact ⟨_, _, fd, (propB_ok (all_at (exs c).2.1 1 (a := ("Fountain", "parts")) rfl)), F, F.bindsN fun _ _ _ _ _ _ us hl => match us, hl with | [_], _ => rfl⟩
  p_size := by
    obtain ⟨fd, F⟩ := c.fxAt 5 (d := ⟨fun K => gAd K ("Fountain", "size"), "size", "Fountain.size", defArgs s_Fountain_size, defBody s_Fountain_size, defScope s_Fountain_size⟩) rfl
    exact ⟨_, _, fd, (propB_ok (all_at (exs c).2.1 2 (a := ("Fountain", "size")) rfl)), F, F.bindsN fun _ _ _ _ _ _ us hl => match us, hl with | [_], _ => rfl⟩
  p_jets := by
    obtain ⟨fd, F⟩ := c.fxAt 6 (d := ⟨fun K => gAd K ("Fountain", "jets"), "jets", "Fountain.jets", defArgs s_Fountain_jets, defBody s_Fountain_jets, defScope s_Fountain_jets⟩) rfl
    exact ⟨_, _, fd, (propB_ok (all_at (exs c).2.1 3 (a := ("Fountain", "jets")) rfl)), F, F.bindsN fun _ _ _ _ _ _ us hl => match us, hl with | [_], _ => rfl⟩
  p_depth := by
    obtain ⟨fd, F⟩ := c.fxAt 7 (d := ⟨fun K => gAd K ("Fountain", "depth"), "depth", "Fountain.depth", defArgs s_Fountain_depth, defBody s_Fountain_depth, defScope s_Fountain_depth⟩) rfl
    exact ⟨_, _, fd, (propB_ok (all_at (exs c).2.1 4 (a := ("Fountain", "depth")) rfl)), F, F.bindsN fun _ _ _ _ _ _ us hl => match us, hl with | [_], _ => rfl⟩
  p_longest := by
    obtain ⟨fd, F⟩ := c.fxAt 8 (d := ⟨fun K => gAd K ("Fountain", "longest"), "longest", "Fountain.longest", defArgs s_Fountain_longest, defBody s_Fountain_longest, defScope s_Fountain_longest⟩) rfl
    exact ⟨_, _, fd, (propB_ok (all_at (exs c).2.1 5 (a := ("Fountain", "longest")) rfl)), F, F.bindsN fun _ _ _ _ _ _ us hl => match us, hl with | [_], _ => rfl⟩
  p_shortest := by
    obtain ⟨fd, F⟩ := c.fxAt 9 (d := ⟨fun K => gAd K ("Fountain", "shortest"), "shortest", "Fountain.shortest", defArgs s_Fountain_shortest, defBody s_Fountain_shortest, defScope s_Fountain_shortest⟩) rfl
    exact ⟨_, _, fd, (propB_ok (all_at (exs c).2.1 6 (a := ("Fountain", "shortest")) rfl)), F, F.bindsN fun _ _ _ _ _ _ us hl => match us, hl with | [_], _ => rfl⟩
  p_is_open := by
    obtain ⟨fd, F⟩ := c.fxAt 10 (d := ⟨fun K => gAd K ("Fountain", "is_open"), "is_open", "Fountain.is_open", defArgs s_Fountain_is_open, defBody s_Fountain_is_open, defScope s_Fountain_is_open⟩) rfl
    exact ⟨_, _, fd, (propB_ok (all_at (exs c).2.1 7 (a := ("Fountain", "is_open")) rfl)), F, F.bindsN fun _ _ _ _ _ _ us hl => match us, hl with | [_], _ => rfl⟩
  p_is_jet := by
    obtain ⟨fd, F⟩ := c.fxAt 11 (d := ⟨fun K => gAd K ("Fountain", "is_jet"), "is_jet", "Fountain.is_jet", defArgs s_Fountain_is_jet, defBody s_Fountain_is_jet, defScope s_Fountain_is_jet⟩) rfl
    exact ⟨_, _, fd, (propB_ok (all_at (exs c).2.1 8 (a := ("Fountain", "is_jet")) rfl)), F, F.bindsN fun _ _ _ _ _ _ us hl => match us, hl with | [_], _ => rfl⟩
  m___eq__ := by
    obtain ⟨fd, F⟩ := c.d.def_ 15 (d := dfn "Fountain" (some "__eq__") "__eq__" "Fountain.__eq__" s_Fountain___eq__ [] []) rfl
    exact ⟨_, fd, meth_ok (c.d.fact 28 (f := .meth "Fountain" "__eq__") rfl), F, F.bindsN fun _ _ _ _ _ _ us hl => match us, hl with | [_, _], _ => rfl⟩
  m___repr__ := by
    obtain ⟨fd, F⟩ := c.d.def_ 16 (d := dfn "Fountain" (some "__repr__") "__repr__" "Fountain.__repr__" s_Fountain___repr__ [] []) rfl
    exact ⟨_, fd, meth_ok (c.d.fact 29 (f := .meth "Fountain" "__repr__") rfl), F, F.bindsN fun _ _ _ _ _ _ us hl => match us, hl with | [_], _ => rfl⟩
  m___len__ := by
    obtain ⟨fd, F⟩ := c.d.def_ 17 (d := dfn "Fountain" (some "__len__") "__len__" "Fountain.__len__" s_Fountain___len__ [] []) rfl
    exact ⟨_, fd, meth_ok (c.d.fact 30 (f := .meth "Fountain" "__len__") rfl), F, F.bindsN fun _ _ _ _ _ _ us hl => match us, hl with | [_], _ => rfl⟩
  m___getitem__ := by
    obtain ⟨fd, F⟩ := c.d.def_ 18 (d := dfn "Fountain" (some "__getitem__") "__getitem__" "Fountain.__getitem__" s_Fountain___getitem__ [] []) rfl
    exact ⟨_, fd, meth_ok (c.d.fact 31 (f := .meth "Fountain" "__getitem__") rfl), F, F.bindsN fun _ _ _ _ _ _ us hl => match us, hl with | [_, _], _ => rfl⟩
  m___contains__ := by
    obtain ⟨fd, F⟩ := c.d.def_ 19 (d := dfn "Fountain" (some "__contains__") "__contains__" "Fountain.__contains__" s_Fountain___contains__ [] []) rfl
    exact ⟨_, fd, meth_ok (c.d.fact 32 (f := .meth "Fountain" "__contains__") rfl), F, F.bindsN fun _ _ _ _ _ _ us hl => match us, hl with | [_, _], _ => rfl⟩
  m___add__ := by
    obtain ⟨fd, F⟩ := c.d.def_ 20 (d := dfn "Fountain" (some "__add__") "__add__" "Fountain.__add__" s_Fountain___add__ [] []) rfl
    exact ⟨_, fd, meth_ok (c.d.fact 33 (f := .meth "Fountain" "__add__") rfl), F, F.bindsN fun _ _ _ _ _ _ us hl => match us, hl with | [_, _], _ => rfl⟩
  m___sub__ := by
    obtain ⟨fd, F⟩ := c.d.def_ 21 (d := dfn "Fountain" (some "__sub__") "__sub__" "Fountain.__sub__" s_Fountain___sub__ [] []) rfl
    exact ⟨_, fd, meth_ok (c.d.fact 34 (f := .meth "Fountain" "__sub__") rfl), F, F.bindsN fun _ _ _ _ _ _ us hl => match us, hl with | [_, _], _ => rfl⟩
  m___mul__ := by
    obtain ⟨fd, F⟩ := c.d.def_ 22 (d := dfn "Fountain" (some "__mul__") "__mul__" "Fountain.__mul__" s_Fountain___mul__ [] []) rfl
    exact ⟨_, fd, meth_ok (c.d.fact 35 (f := .meth "Fountain" "__mul__") rfl), F, F.bindsN fun _ _ _ _ _ _ us hl => match us, hl with | [_, _], _ => rfl⟩
  m___floordiv__ := by
    obtain ⟨fd, F⟩ := c.d.def_ 23 (d := dfn "Fountain" (some "__floordiv__") "__floordiv__" "Fountain.__floordiv__" s_Fountain___floordiv__ [] []) rfl
    exact ⟨_, fd, meth_ok (c.d.fact 36 (f := .meth "Fountain" "__floordiv__") rfl), F, F.bindsN fun _ _ _ _ _ _ us hl => match us, hl with | [_, _], _ => rfl⟩
  m_at := by
    obtain ⟨fd, F⟩ := c.d.def_ 24 (d := dfn "Fountain" (some "at") "at" "Fountain.at" s_Fountain_at [] []) rfl
    exact ⟨_, fd, meth_ok (c.d.fact 37 (f := .meth "Fountain" "at") rfl), F, F.bindsN fun _ _ _ _ _ _ us hl => match us, hl with | [_, _], _ => rfl⟩
  m_put := by
    obtain ⟨fd, F⟩ := c.d.def_ 25 (d := dfn "Fountain" (some "put") "put" "Fountain.put" s_Fountain_put [] []) rfl
    exact ⟨_, fd, meth_ok (c.d.fact 38 (f := .meth "Fountain" "put") rfl), F, F.bindsN fun _ _ _ _ _ _ us hl => match us, hl with | [_, _, _], _ => rfl⟩
  d_need_open := by
    obtain ⟨fd, F⟩ := c.d.def_ 26 (d := dfn "need_open" none "need_open" "need_open" s_need_open [] []) rfl
    refine ⟨_, fd, glo_ok X G (c.d.fact 39 (f := .glo "need_open") rfl), F, ?_⟩
    obtain ⟨oc, od, dV, kV, doc, pm, an, cdv, ct, osl, rfl, _, _, hD, _⟩ := F.ex
    have hdv : dV = .none := hD.elim (fun z => z.2) fun z => absurd rfl z.1
    subst hdv
    exact fun us rest hl => match us, hl with | [], _ => bindStar1 (by rfl) (by rfl) (by rfl) (by rfl) (by rfl) (by rfl) (by rfl) rest
  d_shared_tail := by
    obtain ⟨fd, F⟩ := c.d.def_ 27 (d := dfn "shared_tail" none "shared_tail" "shared_tail" s_shared_tail [] []) rfl
    exact ⟨_, fd, glo_ok X G (c.d.fact 40 (f := .glo "shared_tail") rfl), F, F.bindsN fun _ _ _ _ _ _ us hl => match us, hl with | [_], _ => rfl⟩
  d_open_branches := by
    obtain ⟨fd, F⟩ := c.d.def_ 28 (d := dfn "open_branches" none "open_branches" "open_branches" s_open_branches [] []) rfl
    exact ⟨_, fd, glo_ok X G (c.d.fact 41 (f := .glo "open_branches") rfl), F, F.bindsN fun _ _ _ _ _ _ us hl => match us, hl with | [_], _ => rfl⟩
  d_word_and_ends := by
    obtain ⟨fd, F⟩ := c.d.def_ 29 (d := dfn "word_and_ends" none "word_and_ends" "word_and_ends" s_word_and_ends [] []) rfl
    exact ⟨_, fd, glo_ok X G (c.d.fact 42 (f := .glo "word_and_ends") rfl), F, F.bindsN fun _ _ _ _ _ _ us hl => match us, hl with | [_], _ => rfl⟩
  d_word_of := by
    obtain ⟨fd, F⟩ := c.d.def_ 30 (d := dfn "word_of" none "word_of" "word_of" s_word_of [] []) rfl
    exact ⟨_, fd, glo_ok X G (c.d.fact 43 (f := .glo "word_of") rfl), F, F.bindsN fun _ _ _ _ _ _ us hl => match us, hl with | [_], _ => rfl⟩
  d_uniform := by
    obtain ⟨fd, F⟩ := c.d.def_ 31 (d := dfn "uniform" none "uniform" "uniform" s_uniform [] []) rfl
    exact ⟨_, fd, glo_ok X G (c.d.fact 44 (f := .glo "uniform") rfl), F, F.bindsN fun _ _ _ _ _ _ us hl => match us, hl with | [_], _ => rfl⟩
  d_trimmed := by
    obtain ⟨fd, F⟩ := c.d.def_ 32 (d := dfn "trimmed" none "trimmed" "trimmed" s_trimmed [] []) rfl
    exact ⟨_, fd, glo_ok X G (c.d.fact 45 (f := .glo "trimmed") rfl), F, F.bindsN fun _ _ _ _ _ _ us hl => match us, hl with | [_, _, _], _ => rfl⟩
  d_below := by
    obtain ⟨fd, F⟩ := c.d.def_ 33 (d := dfn "below" none "below" "below" s_below [] []) rfl
    exact ⟨_, fd, glo_ok X G (c.d.fact 46 (f := .glo "below") rfl), F, F.bindsN fun _ _ _ _ _ _ us hl => match us, hl with | [_, _], _ => rfl⟩
  d_decided := by
    obtain ⟨fd, F⟩ := c.d.def_ 34 (d := dfn "decided" none "decided" "decided" s_decided [] []) rfl
    exact ⟨_, fd, glo_ok X G (c.d.fact 47 (f := .glo "decided") rfl), F, F.bindsN fun _ _ _ _ _ _ us hl => match us, hl with | [_, _, _], _ => rfl⟩
  d_joined := by
    obtain ⟨fd, F⟩ := c.d.def_ 35 (d := dfn "joined" none "joined" "joined" s_joined [] []) rfl
    exact ⟨_, fd, glo_ok X G (c.d.fact 48 (f := .glo "joined") rfl), F, F.bindsN fun _ _ _ _ _ _ us hl => match us, hl with | [_, _, _], _ => rfl⟩
  d_ended := by
    obtain ⟨fd, F⟩ := c.d.def_ 36 (d := dfn "ended" none "ended" "ended" s_ended [] []) rfl
    exact ⟨_, fd, glo_ok X G (c.d.fact 49 (f := .glo "ended") rfl), F, F.bindsN fun _ _ _ _ _ _ us hl => match us, hl with | [_, _], _ => rfl⟩
  d_started := by
    obtain ⟨fd, F⟩ := c.d.def_ 37 (d := dfn "started" none "started" "started" s_started [] []) rfl
    exact ⟨_, fd, glo_ok X G (c.d.fact 50 (f := .glo "started") rfl), F, F.bindsN fun _ _ _ _ _ _ us hl => match us, hl with | [_, _], _ => rfl⟩
  d_named := by
    obtain ⟨fd, F⟩ := c.d.def_ 38 (d := dfn "named" none "named" "named" s_named [] []) rfl
    exact ⟨_, fd, glo_ok X G (c.d.fact 51 (f := .glo "named") rfl), F, F.bindsN fun _ _ _ _ _ _ us hl => match us, hl with | [_, _], _ => rfl⟩
  init_Kind := by
    obtain ⟨fd, F⟩ := c.d.def_ 39 (d := dfn "Kind" (some "__init__") "__init__" "Kind.__init__" s_Kind___init__ [] []) rfl
    refine ⟨_, fd, glo_ok X G (c.d.fact 5 (f := .glo "Kind") rfl), mkr_ok (c.d.fact 52 (f := .mkr "Kind") rfl), F, fun j hj => ?_⟩
    have e : j = 0 := Nat.le_zero.mp hj
    subst e
    exact ⟨[], .nil, F.bindsN fun _ _ _ _ _ _ us hl => match us, hl with | [_, _], _ => rfl⟩
  c_Kind_ending := by
    obtain ⟨fd, F⟩ := c.fxAt 12 (d := ⟨fun K => cgAd K ("Kind", "ending"), "ending", "Kind.ending", defArgs s_Kind_ending, defBody s_Kind_ending, defScope s_Kind_ending⟩) rfl
    exact ⟨_, _, _, fd, (cmB_ok (all_at (exs c).2.2.1 3 (a := ("Kind", "ending")) rfl)).1, (cmB_ok (all_at (exs c).2.2.1 3 (a := ("Kind", "ending")) rfl)).2, F, F.bindsN fun _ _ _ _ _ _ us hl => match us, hl with | [_, _], _ => rfl⟩
  c_Kind_of := by
    obtain ⟨fd, F⟩ := c.fxAt 13 (d := ⟨fun K => cgAd K ("Kind", "of"), "of", "Kind.of", defArgs s_Kind_of, defBody s_Kind_of, defScope s_Kind_of⟩) rfl
    exact ⟨_, _, _, fd, (cmB_ok (all_at (exs c).2.2.1 4 (a := ("Kind", "of")) rfl)).1, (cmB_ok (all_at (exs c).2.2.1 4 (a := ("Kind", "of")) rfl)).2, F, F.bindsN fun _ _ _ _ _ _ us hl => match us, hl with | [_, _], _ => rfl⟩
  c_Kind_every := by
    obtain ⟨fd, F⟩ := c.fxAt 14 (d := ⟨fun K => cgAd K ("Kind", "every"), "every", "Kind.every", defArgs s_Kind_every, defBody s_Kind_every, defScope s_Kind_every⟩) rfl
    exact ⟨_, _, _, fd, (cmB_ok (all_at (exs c).2.2.1 5 (a := ("Kind", "every")) rfl)).1, (cmB_ok (all_at (exs c).2.2.1 5 (a := ("Kind", "every")) rfl)).2, F, F.bindsN fun _ _ _ _ _ _ us hl => match us, hl with | [_], _ => rfl⟩
  c_Kind_none := by
    obtain ⟨fd, F⟩ := c.fxAt 15 (d := ⟨fun K => cgAd K ("Kind", "none"), "none", "Kind.none", defArgs s_Kind_none, defBody s_Kind_none, defScope s_Kind_none⟩) rfl
    exact ⟨_, _, _, fd, (cmB_ok (all_at (exs c).2.2.1 6 (a := ("Kind", "none")) rfl)).1, (cmB_ok (all_at (exs c).2.2.1 6 (a := ("Kind", "none")) rfl)).2, F, F.bindsN fun _ _ _ _ _ _ us hl => match us, hl with | [_], _ => rfl⟩
  m_Kind___eq__ := by
    obtain ⟨fd, F⟩ := c.d.def_ 40 (d := dfn "Kind" (some "__eq__") "__eq__" "Kind.__eq__" s_Kind___eq__ [] []) rfl
    exact ⟨_, fd, meth_ok (c.d.fact 53 (f := .meth "Kind" "__eq__") rfl), F, F.bindsN fun _ _ _ _ _ _ us hl => match us, hl with | [_, _], _ => rfl⟩
  m_Kind___or__ := by
    obtain ⟨fd, F⟩ := c.d.def_ 41 (d := dfn "Kind" (some "__or__") "__or__" "Kind.__or__" s_Kind___or__ [] []) rfl
    exact ⟨_, fd, meth_ok (c.d.fact 54 (f := .meth "Kind" "__or__") rfl), F, F.bindsN fun _ _ _ _ _ _ us hl => match us, hl with | [_, _], _ => rfl⟩
  m_Kind___and__ := by
    obtain ⟨fd, F⟩ := c.d.def_ 42 (d := dfn "Kind" (some "__and__") "__and__" "Kind.__and__" s_Kind___and__ [] []) rfl
    exact ⟨_, fd, meth_ok (c.d.fact 55 (f := .meth "Kind" "__and__") rfl), F, F.bindsN fun _ _ _ _ _ _ us hl => match us, hl with | [_, _], _ => rfl⟩
  m_Kind___sub__ := by
    obtain ⟨fd, F⟩ := c.d.def_ 43 (d := dfn "Kind" (some "__sub__") "__sub__" "Kind.__sub__" s_Kind___sub__ [] []) rfl
    exact ⟨_, fd, meth_ok (c.d.fact 56 (f := .meth "Kind" "__sub__") rfl), F, F.bindsN fun _ _ _ _ _ _ us hl => match us, hl with | [_, _], _ => rfl⟩
  m_Kind___xor__ := by
    obtain ⟨fd, F⟩ := c.d.def_ 44 (d := dfn "Kind" (some "__xor__") "__xor__" "Kind.__xor__" s_Kind___xor__ [] []) rfl
    exact ⟨_, fd, meth_ok (c.d.fact 57 (f := .meth "Kind" "__xor__") rfl), F, F.bindsN fun _ _ _ _ _ _ us hl => match us, hl with | [_, _], _ => rfl⟩
  m_Kind___mul__ := by
    obtain ⟨fd, F⟩ := c.d.def_ 45 (d := dfn "Kind" (some "__mul__") "__mul__" "Kind.__mul__" s_Kind___mul__ [] []) rfl
    exact ⟨_, fd, meth_ok (c.d.fact 58 (f := .meth "Kind" "__mul__") rfl), F, F.bindsN fun _ _ _ _ _ _ us hl => match us, hl with | [_, _], _ => rfl⟩
  m_Kind___floordiv__ := by
    obtain ⟨fd, F⟩ := c.d.def_ 46 (d := dfn "Kind" (some "__floordiv__") "__floordiv__" "Kind.__floordiv__" s_Kind___floordiv__ [] []) rfl
    exact ⟨_, fd, meth_ok (c.d.fact 59 (f := .meth "Kind" "__floordiv__") rfl), F, F.bindsN fun _ _ _ _ _ _ us hl => match us, hl with | [_, _], _ => rfl⟩
  m_Kind_form := by
    obtain ⟨fd, F⟩ := c.d.def_ 47 (d := dfn "Kind" (some "form") "form" "Kind.form" s_Kind_form [] []) rfl
    exact ⟨_, fd, meth_ok (c.d.fact 60 (f := .meth "Kind" "form") rfl), F, F.bindsN fun _ _ _ _ _ _ us hl => match us, hl with | [_], _ => rfl⟩
  d__law_feed := by
    obtain ⟨fd, F⟩ := c.d.def_ 48 (d := dfn "_law_feed" none "_law_feed" "_law_feed" s__law_feed [] []) rfl
    exact ⟨_, fd, glo_ok X G (c.d.fact 61 (f := .glo "_law_feed") rfl), F, F.bindsN fun _ _ _ _ _ _ us hl => match us, hl with | [_, _], _ => rfl⟩
  d__law_draw := by
    obtain ⟨fd, F⟩ := c.d.def_ 49 (d := dfn "_law_draw" none "_law_draw" "_law_draw" s__law_draw [] []) rfl
    exact ⟨_, fd, glo_ok X G (c.d.fact 62 (f := .glo "_law_draw") rfl), F, F.bindsN fun _ _ _ _ _ _ us hl => match us, hl with | [_, _], _ => rfl⟩
  d__law_mixed := by
    obtain ⟨fd, F⟩ := c.d.def_ 50 (d := dfn "_law_mixed" none "_law_mixed" "_law_mixed" s__law_mixed [] []) rfl
    exact ⟨_, fd, glo_ok X G (c.d.fact 63 (f := .glo "_law_mixed") rfl), F, F.bindsN fun _ _ _ _ _ _ us hl => match us, hl with | [_, _], _ => rfl⟩
  d__law_norm := by
    obtain ⟨fd, F⟩ := c.d.def_ 51 (d := dfn "_law_norm" none "_law_norm" "_law_norm" s__law_norm [] []) rfl
    exact ⟨_, fd, glo_ok X G (c.d.fact 64 (f := .glo "_law_norm") rfl), F, F.bindsN fun _ _ _ _ _ _ us hl => match us, hl with | [_], _ => rfl⟩
  d__law_size := by
    obtain ⟨fd, F⟩ := c.d.def_ 52 (d := dfn "_law_size" none "_law_size" "_law_size" s__law_size [] []) rfl
    exact ⟨_, fd, glo_ok X G (c.d.fact 65 (f := .glo "_law_size") rfl), F, F.bindsN fun _ _ _ _ _ _ us hl => match us, hl with | [_], _ => rfl⟩
  d__law_grown := by
    obtain ⟨fd, F⟩ := c.d.def_ 53 (d := dfn "_law_grown" none "_law_grown" "_law_grown" s__law_grown [] []) rfl
    exact ⟨_, fd, glo_ok X G (c.d.fact 66 (f := .glo "_law_grown") rfl), F, F.bindsN fun _ _ _ _ _ _ us hl => match us, hl with | [_, _], _ => rfl⟩
  d__law_open := by
    obtain ⟨fd, F⟩ := c.d.def_ 54 (d := dfn "_law_open" none "_law_open" "_law_open" s__law_open [] []) rfl
    exact ⟨_, fd, glo_ok X G (c.d.fact 67 (f := .glo "_law_open") rfl), F, F.bindsN fun _ _ _ _ _ _ us hl => match us, hl with | [_, _], _ => rfl⟩
  d__law_closed := by
    obtain ⟨fd, F⟩ := c.d.def_ 55 (d := dfn "_law_closed" none "_law_closed" "_law_closed" s__law_closed [] []) rfl
    exact ⟨_, fd, glo_ok X G (c.d.fact 68 (f := .glo "_law_closed") rfl), F, F.bindsN fun _ _ _ _ _ _ us hl => match us, hl with | [_, _], _ => rfl⟩
  d__law_refused := by
    obtain ⟨fd, F⟩ := c.d.def_ 56 (d := dfn "_law_refused" none "_law_refused" "_law_refused" s__law_refused [] []) rfl
    exact ⟨_, fd, glo_ok X G (c.d.fact 69 (f := .glo "_law_refused") rfl), F, F.bindsN fun _ _ _ _ _ _ us hl => match us, hl with | [_, _, _, _], _ => rfl⟩
  d_law := by
    obtain ⟨fd, F⟩ := c.d.def_ 57 (d := dfn "law" none "law" "law" s_law [] []) rfl
    exact ⟨_, fd, glo_ok X G (c.d.fact 70 (f := .glo "law") rfl), F, F.bindsN fun _ _ _ _ _ _ us hl => match us, hl with | [_], _ => rfl⟩
  b_JetError := ⟨glo_ok X G (c.d.fact 71 (f := .glo "JetError") rfl), baseB_ok (all_at (exs c).2.2.2.2.1 0 (a := "JetError") rfl)⟩
  e_JetError := ⟨glo_ok X G (c.d.fact 71 (f := .glo "JetError") rfl)⟩
  e_Endless := ⟨glo_ok X G (c.d.fact 72 (f := .glo "Endless") rfl)⟩
  e_NoDivision := ⟨glo_ok X G (c.d.fact 73 (f := .glo "NoDivision") rfl)⟩
  k_Closed_Closed := of_decide_eq_true (all_at (exs c).2.2.2.2.2.1 0 (a := ("Closed", "Closed", true)) rfl)
  k_Closed_Endless := of_decide_eq_true (all_at (exs c).2.2.2.2.2.1 1 (a := ("Closed", "Endless", false)) rfl)
  k_Closed_NoDivision := of_decide_eq_true (all_at (exs c).2.2.2.2.2.1 2 (a := ("Closed", "NoDivision", false)) rfl)
  x_Closed_JetError := of_decide_eq_true (all_at (exs c).2.2.2.2.2.2 0 (a := ("Closed", "JetError", true)) rfl)
  ny_Kind := of_decide_eq_true (all_at (ba c.more).1 0 (a := fun K : PySem.W.Frag => decide (¬ (He.ga K "Kind" = He.ga K "Fountain"))) rfl)
  xk_mul := of_decide_eq_true (all_at (ba c.more).1 1 (a := fun K : PySem.W.Frag => decide (PySem.W.findIn K (.ref (He.ga K "Kind")) "__rmul__" = some none)) rfl)
  xk_floordiv := of_decide_eq_true (all_at (ba c.more).1 2 (a := fun K : PySem.W.Frag => decide (PySem.W.findIn K (.ref (He.ga K "Kind")) "__rfloordiv__" = some none)) rfl)
  xf_mul := of_decide_eq_true (all_at (ba c.more).1 3 (a := fun K : PySem.W.Frag => decide (PySem.W.findIn K (.ref (He.ga K "Fountain")) "__rmul__" = some none)) rfl)
  xf_floordiv := of_decide_eq_true (all_at (ba c.more).1 4 (a := fun K : PySem.W.Frag => decide (PySem.W.findIn K (.ref (He.ga K "Fountain")) "__rfloordiv__" = some none)) rfl)
  xs_Kind := of_decide_eq_true (all_at (ba c.more).1 5 (a := fun K : PySem.W.Frag => decide (PySem.W.subIn K (.ref (He.ga K "Fountain")) (.ref (He.ga K "Kind")) = some false)) rfl)
  n_NotImplemented := free_ok X G (c.d.fact 74 (f := .free "NotImplemented") rfl)
  n_TypeError := free_ok X G (c.d.fact 75 (f := .free "TypeError") rfl)
  n_abs := free_ok X G (c.d.fact 76 (f := .free "abs") rfl)
  n_all := free_ok X G (c.d.fact 77 (f := .free "all") rfl)
  n_any := free_ok X G (c.d.fact 78 (f := .free "any") rfl)
  n_bool := free_ok X G (c.d.fact 79 (f := .free "bool") rfl)
  n_enumerate := free_ok X G (c.d.fact 80 (f := .free "enumerate") rfl)
  n_int := free_ok X G (c.d.fact 81 (f := .free "int") rfl)
  n_isinstance := free_ok X G (c.d.fact 82 (f := .free "isinstance") rfl)
  n_len := free_ok X G (c.d.fact 83 (f := .free "len") rfl)
  n_list := free_ok X G (c.d.fact 84 (f := .free "list") rfl)
  n_max := free_ok X G (c.d.fact 85 (f := .free "max") rfl)
  n_min := free_ok X G (c.d.fact 86 (f := .free "min") rfl)
  n_range := free_ok X G (c.d.fact 87 (f := .free "range") rfl)
  n_sorted := free_ok X G (c.d.fact 88 (f := .free "sorted") rfl)
  n_sum := free_ok X G (c.d.fact 89 (f := .free "sum") rfl)
  n_tuple := free_ok X G (c.d.fact 90 (f := .free "tuple") rfl)
theorem tabs_of {K : PySem.W.Frag} {H : Hp} (hH : ∀ p ∈ tf.map (cT K), H p.2 = some (.tbl #[])) : LamX.Tabs (TT K) H := fun q hq => by
  rcases List.mem_cons.mp hq with e | hq
  · subst e
    exact LamX.TabS.nil (hH _ (List.mem_map.mpr ⟨("made", none), List.mem_of_getElem? (i := 0) rfl, rfl⟩))
  · exact absurd hq (by simp)
theorem facts {w : World} {K : PySem.W.Frag} {h : Heap} {mg : Str → Option Value} {f : Addr} (X : K.In h) (G : h.Ns mainGlobals mg) (hfa : mg ("law" : Str) = some (.ref f)) (c : SaysE fa fn tf ex fx h K) :
    LamX.LawAtS PySem.Challenge.rw_jetworks_k39_kinds_refuse_closed_ones w K CX0 201 63 "_law_script" mg f h := by
  obtain ⟨fd, F⟩ := c.d.def_ 57 (d := dfn "law" none "law" "law" s_law [] []) rfl
  have e := hfa.symm.trans (glo_ok X G (c.d.fact 70 (f := .glo "law") rfl))
  cases e
  refine ⟨fd, tf.map (cT K), sp_law K, fun p hp => ?_, fun p hp => ?_, fun p hp => ?_, fun s v => FunD.bindsA (ps := ["_law_script"]) F (fun _ _ _ _ _ _ us hl => match us, hl with | [_], _ => rfl) s [v] rfl, fun H a ns hl _ hH hS => ⟨a, ns, rfl, hS, hl, tabs_of hH, fun _ => rfl⟩, fun base kb nb TB => fn_law (txt_of kb nb c TB) F⟩
  · obtain ⟨q, hq, rfl⟩ := List.mem_map.mp hp
    exact c.empty q hq
  · obtain ⟨q, hq, rfl⟩ := List.mem_map.mp hp
    exact c.out q hq
  · obtain ⟨q, hq, rfl⟩ := List.mem_map.mp hp
    exact PySem.W.codeHd_of_K X (c.hd q hq)

end JW
open PySem PySem.W PySem.Calls PyProof.Rows
set_option maxRecDepth 100000 in
set_option maxHeartbeats 0 in
theorem PySem.Challenge.cw_jetworks_k39_kinds_refuse_closed_ones_holds : PySem.Challenge.rw_jetworks_k39_kinds_refuse_closed_ones.Holds := by
  w_on; o_law
  refine HandSHeadRun.head_any (r := OpenLaw.row PySem.Challenge.rw_jetworks_k39_kinds_refuse_closed_ones) (q := view (OpenLaw.row PySem.Challenge.rw_jetworks_k39_kinds_refuse_closed_ones).prog [60]) (H := JW.hk) (ob := JW.ob) (M := 200000) (loose := JW.loose) (d := HandSHeadRun.topDef (OpenLaw.row PySem.Challenge.rw_jetworks_k39_kinds_refuse_closed_ones).prog 60) (kwd := []) JW.ob_eq
    (by kernel_rfl) (fun s => by kernel_rfl) JW.run (by kernel_rfl) (by kernel_rfl) (by kernel_rfl) (by rfl) (by first | assumption | decide +kernel) (by decide +kernel) ⟨rfl, rfl, rfl, rfl, rfl, by decide +kernel⟩ ?hw ?hc
  case hw => w_witness2
  case hc =>
    refine LamX.walk_ofTsE (l := PySem.Challenge.rw_jetworks_k39_kinds_refuse_closed_ones) (n := 63) (k := 201) (x := "_law_script") (CX := fun _ => L2.CX0) rfl (by decide) (by kernel_rfl) ⟨rfl, by decide, by decide⟩ ?F (fun _ _ _ _ _ z => z)
    intro w mg fa h Y G hmg0
    obtain ⟨K, KX, c⟩ := Y
    have hmg : mg ("law" : PySem.Str) = some (.ref fa) := by
      have e : (HandSHeadRun.topDef (OpenLaw.row PySem.Challenge.rw_jetworks_k39_kinds_refuse_closed_ones).prog 60).name = ("law" : PySem.Str) := by kernel_rfl
      rw [← e]
      exact hmg0
    exact ⟨K, KX, JW.facts KX G hmg c⟩

