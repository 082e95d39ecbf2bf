import PyProof.Rows.All
import Wide.All
import OpenK.AllK
import Wide.FinOn
import HandS.ForMost
import HandS.Conv
import HandS.CallLocal
import HandS.RaiseOp
import HandS.Star
import HandS.TupAny
import HandS.Flow
import KE.SortData
import KE.KDictPairs
import KE.KDictKeyed
import PyProof.ReprRoads
import PySem.Challenge.RW_endclimbs_k24_whole_steady_spots_by_rows
import HandS.Style
import PyProof.ReprLen
set_option Elab.async false
set_option linter.all false
set_option maxRecDepth 100000
set_option maxHeartbeats 4000000
/-! K24 -/
namespace K24

inductive Mv | take | next | out | wait
deriving DecidableEq

structure Rule where
  ms : List Int
  ph : List (List (Mv × Nat))

abbrev Rm := Option Int
abbrev Spot := Nat × Nat × Nat
abbrev Stand := Nat × Int × Int

def Rule.N (R : Rule) : Nat := R.ph.length
def Rule.pr (R : Rule) (p i : Nat) : Mv × Nat := (R.ph.getD p []).getD i (.out, 0)

structure Rule.WF (R : Rule) : Prop where
  asc : R.ms.Pairwise (· < ·)
  pos : 0 < R.N
  ok : ∀ P ∈ R.ph, P.length = 3 ∧ ∀ x ∈ P, x.2 < R.N

/-! ### the program's functions -/
def mkAt (ms : List Int) (i : Nat) : Int := ms.getD i 0
def markRoom (ms : List Int) (g : Nat) : Rm := if g = ms.length then none else some (mkAt ms g - 1 - mkAt ms (g - 1))
def firstRoom (ms : List Int) (g : Nat) : Rm := if g = 0 then none else markRoom ms g
def isEnough : Rm → Rm → Bool
  | none, _ => true
  | some r, some w => decide (w ≤ r)
  | some _, none => false
def firstSpots (ms : List Int) : List (Spot × Rm) := (List.range (ms.length + 1)).map fun g => ((0, g, 0), firstRoom ms g)
def coming (ms : List Int) (g fl : Nat) (r : Rm) : List Nat :=
  (((if g = ms.length ∨ isEnough r (some 1) = true then [0] else []) ++ (if g = ms.length then [] else [1])) ++ [2]).filter fun i => decide (fl ≤ i)
def gapsFrom (ms : List Int) (a : Nat) : List Nat := List.range' a (ms.length + 1 - a)
def farGoal (ms : List Int) (g l : Nat) : Option (Nat × Rm) :=
  match markRoom ms l with
  | none => some (l, none)
  | some r => if g + 1 < l then some (l, some r) else if 0 < r then some (l, some (r - 1)) else none
def farGoals (ms : List Int) (g : Nat) : List (Nat × Rm) := (gapsFrom ms (g + 1)).filterMap (farGoal ms g)
def goals (ms : List Int) (g : Nat) (r : Rm) (i : Nat) (mv : Mv) : List (Nat × Rm) :=
  if mv = .out then []
  else if mv = .wait then [(g, r)]
  else if mv = .take ∧ i = 0 then [(g, r.map (· - 1))]
  else if g = ms.length then []
  else if i < 2 then [(g + 1, markRoom ms (g + 1))]
  else if mv = .take then farGoals ms g
  else (gapsFrom ms (g + 2)).map fun l => (l, markRoom ms l)
def stepsBy (R : Rule) (s : Spot) (r : Rm) (i : Nat) : List (Spot × Rm) :=
  (goals R.ms s.2.1 r i (R.pr s.1 i).1).map fun x => (((R.pr s.1 i).2, x.1, if (R.pr s.1 i).1 = .wait then i else 0), x.2)
def anySteps (R : Rule) (s : Spot) (r : Rm) : List (Spot × Rm) := (coming R.ms s.2.1 s.2.2 r).flatMap (stepsBy R s r)
def moveBehind (R : Rule) (i : Nat) : Nat → Nat → Option (Mv × Nat)
  | 0, _ => none
  | k + 1, p => if (R.pr p i).1 = .wait then moveBehind R i k (R.pr p i).2 else some (R.pr p i)
def steadyCases (ms : List Int) (g fl : Nat) (r : Rm) : List Nat := (coming ms g fl r).filter fun i => decide (i < 2 ∨ g < ms.length)
def steadyBy (R : Rule) (s : Spot) (r : Rm) (i : Nat) : List (Spot × Rm) :=
  match moveBehind R i R.N s.1 with
  | none => []
  | some m => (goals R.ms s.2.1 r i m.1).map fun x => ((m.2, x.1, 0), x.2)
def steadySteps (R : Rule) (s : Spot) (r : Rm) : List (Spot × Rm) := (steadyCases R.ms s.2.1 s.2.2 r).flatMap (steadyBy R s r)

def Cov (F : List (Spot × Rm)) (y : Spot × Rm) : Prop := ∃ r, (y.1, r) ∈ F ∧ isEnough r y.2 = true
inductive Rch (st : Spot → Rm → List (Spot × Rm)) (starts : List (Spot × Rm)) : Spot × Rm → Prop
  | start {x} : x ∈ starts → Rch st starts x
  | step {x y} : Rch st starts x → y ∈ st x.1 x.2 → Rch st starts y
structure Fix (st : Spot → Rm → List (Spot × Rm)) (starts F : List (Spot × Rm)) : Prop where
  nd : (F.map (·.1)).Nodup
  start : ∀ x ∈ starts, Cov F x
  closed : ∀ x ∈ F, ∀ y ∈ st x.1 x.2, Cov F y
  sound : ∀ x ∈ F, Rch st starts x

/-! ### the law's functions -/
def upper (ms : List Int) (x : Int) : Option Int := (ms.filter fun m => decide (x < m)).head?
def least (ms : List Int) (y : Int) : Option Int := (ms.filter fun m => decide (y ≤ m)).head?
def caseOf (ms : List Int) (x y : Int) : Nat :=
  match upper ms x with
  | none => 0
  | some u => if y < u then 0 else if y = u then 1 else 2
def endOf (ms : List Int) (mv : Mv) (x y : Int) : Option Int :=
  match mv with
  | .take => some y
  | .wait => some x
  | .out => none
  | .next => least ms y
def movedTo (R : Rule) (s : Stand) (y : Int) : Option Stand :=
  (endOf R.ms (R.pr s.1 (caseOf R.ms s.2.1 y)).1 s.2.1 y).map fun e => ((R.pr s.1 (caseOf R.ms s.2.1 y)).2, e, if (R.pr s.1 (caseOf R.ms s.2.1 y)).1 = .wait then y else e)
def rangeI (a b : Int) : List Int := (List.range (b - a).toNat).map fun i : Nat => a + i
def lates (most : Int) (s : Stand) : List Int := if s.2.1 = s.2.2 then rangeI (s.2.2 + 1) (most + 1) else [s.2.2]
def gapOf (ms : List Int) (x : Int) : Nat := (ms.filter fun m => decide (m ≤ x)).length
def roomOf (ms : List Int) (x : Int) : Int := mkAt ms (gapOf ms x) - x - 1
def tops (ms : List Int) : List Int := if ms = [] then [0] else ms
def firsts (R : Rule) : List Int := rangeI (mkAt (tops R.ms) 0 - R.N - 2) (mkAt (tops R.ms) ((tops R.ms).length - 1) + 2)
def mostOf (R : Rule) : Int := mkAt (tops R.ms) ((tops R.ms).length - 1) + R.N + 3
inductive CRl (R : Rule) : Stand → Prop
  | first {x} : x ∈ firsts R → CRl R (0, x, x)
  | step {s y s'} : CRl R s → y ∈ lates (mostOf R) s → movedTo R s y = some s' → CRl R s'

/-! ### lists that rise -/
theorem mem_rangeI {a b x : Int} : x ∈ rangeI a b ↔ a ≤ x ∧ x < b := by
  unfold rangeI
  simp only [List.mem_map, List.mem_range]
  constructor
  · rintro ⟨i, hi, rfl⟩; omega
  · rintro ⟨h1, h2⟩; exact ⟨(x - a).toNat, by omega, by omega⟩

theorem mk_lt {ms : List Int} (h : ms.Pairwise (· < ·)) {i j : Nat} (hij : i < j) (hj : j < ms.length) : mkAt ms i < mkAt ms j := by
  unfold mkAt
  rw [List.getD_eq_getElem?_getD, List.getD_eq_getElem?_getD, List.getElem?_eq_getElem hj, List.getElem?_eq_getElem (Nat.lt_trans hij hj)]
  exact List.pairwise_iff_getElem.mp h i j (Nat.lt_trans hij hj) hj hij
theorem mk_le {ms : List Int} (h : ms.Pairwise (· < ·)) {i j : Nat} (hij : i ≤ j) (hj : j < ms.length) : mkAt ms i ≤ mkAt ms j := by
  rcases Nat.lt_or_eq_of_le hij with q | q
  · exact Int.le_of_lt (mk_lt h q hj)
  · rw [q]; exact Int.le_refl _

theorem mkAt_succ (m : Int) (ms : List Int) (i : Nat) : mkAt (m :: ms) (i + 1) = mkAt ms i := rfl
theorem mkAt_zero (m : Int) (ms : List Int) : mkAt (m :: ms) 0 = m := rfl

/-- g is the gap of x -/
structure IsGap (ms : List Int) (g : Nat) (x : Int) : Prop where
  le : g ≤ ms.length
  lo : 0 < g → mkAt ms (g - 1) ≤ x
  hi : g < ms.length → x < mkAt ms g
theorem filter_none_of {ms : List Int} {p : Int → Bool} (h : ∀ m ∈ ms, p m = false) : ms.filter p = [] := by
  rw [List.filter_eq_nil_iff]; intro m hm; rw [h m hm]; simp
theorem filter_all_of {ms : List Int} {p : Int → Bool} (h : ∀ m ∈ ms, p m = true) : ms.filter p = ms := by
  rw [List.filter_eq_self]; exact h
theorem isGap_of : ∀ {ms : List Int} (_ : ms.Pairwise (· < ·)) (x : Int), IsGap ms (gapOf ms x) x
  | [], _, x => ⟨Nat.le_refl _, fun h => by simp [gapOf] at h, fun h => by simp [gapOf] at h⟩
  | m :: ms, h, x => by
    have h2 := List.pairwise_cons.mp h
    have ih := isGap_of h2.2 x
    by_cases hm : m ≤ x
    · have e : gapOf (m :: ms) x = gapOf ms x + 1 := by unfold gapOf; rw [List.filter_cons, if_pos (decide_eq_true hm)]; rfl
      rw [e]
      refine ⟨Nat.succ_le_succ ih.le, fun _ => ?_, fun hg => ?_⟩
      · rw [Nat.add_sub_cancel]
        rcases Nat.eq_zero_or_pos (gapOf ms x) with z | z
        · rw [z]; exact hm
        · obtain ⟨k, hk⟩ : ∃ k, gapOf ms x = k + 1 := ⟨gapOf ms x - 1, by omega⟩
          rw [hk, mkAt_succ]
          have := ih.lo z
          rw [hk] at this
          exact this
      · rw [mkAt_succ]; exact ih.hi (by rw [List.length_cons] at hg; omega)
    · have e : gapOf (m :: ms) x = 0 := by
        unfold gapOf
        rw [filter_none_of]; · rfl
        intro y hy
        rcases List.mem_cons.mp hy with rfl | hy
        · exact decide_eq_false hm
        · have := h2.1 y hy; exact decide_eq_false (by omega)
      rw [e]
      refine ⟨Nat.zero_le _, fun h => by omega, fun _ => ?_⟩
      rw [mkAt_zero]; omega
theorem IsGap.eq {ms : List Int} (h : ms.Pairwise (· < ·)) {g g' : Nat} {x : Int} (a : IsGap ms g x) (b : IsGap ms g' x) : g = g' := by
  rcases Nat.lt_trichotomy g g' with q | q | q
  · have h1 := a.hi (Nat.lt_of_lt_of_le q b.le)
    have h2 := b.lo (by omega)
    have h3 : mkAt ms g ≤ mkAt ms (g' - 1) := mk_le h (by omega) (by have := b.le; omega)
    omega
  · exact q
  · have h1 := b.hi (Nat.lt_of_lt_of_le q a.le)
    have h2 := a.lo (by omega)
    have h3 : mkAt ms g' ≤ mkAt ms (g - 1) := mk_le h (by omega) (by have := a.le; omega)
    omega
theorem gapOf_eq {ms : List Int} (h : ms.Pairwise (· < ·)) {g : Nat} {x : Int} (a : IsGap ms g x) : gapOf ms x = g := (isGap_of h x).eq h a
theorem head_filter : ∀ {ms : List Int} (_ : ms.Pairwise (· < ·)) {p : Int → Bool} {k : Nat} (_ : ∀ i, i < k → i < ms.length → p (mkAt ms i) = false) (_ : k < ms.length → p (mkAt ms k) = true) (_ : k ≤ ms.length), (ms.filter p).head? = if k < ms.length then some (mkAt ms k) else none
  | [], _, p, k, _, _, hk => by
    rw [if_neg (by simpa using hk)]; rfl
  | m :: ms, h, p, 0, _, h1, _ => by
    have e : p m = true := h1 (by simp)
    rw [List.filter_cons, if_pos e, if_pos (by simp)]; rfl
  | m :: ms, h, p, k + 1, h0, h1, hk => by
    have e : p m = false := h0 0 (by omega) (by simp)
    rw [List.filter_cons, if_neg (by rw [e]; simp)]
    rw [head_filter (List.pairwise_cons.mp h).2 (p := p) (k := k) (fun i hi hl => h0 (i + 1) (by omega) (by simp; omega)) (fun hl => h1 (by simp; omega)) (by simp at hk; omega)]
    by_cases q : k < ms.length
    · rw [if_pos q, if_pos (by simpa using q), mkAt_succ]
    · rw [if_neg q, if_neg (by simpa using q)]
theorem upper_gap {ms : List Int} (h : ms.Pairwise (· < ·)) {g : Nat} {x : Int} (a : IsGap ms g x) : upper ms x = if g < ms.length then some (mkAt ms g) else none := by
  refine head_filter h (fun i hi hl => decide_eq_false ?_) (fun hl => decide_eq_true (a.hi hl)) a.le
  have h1 := a.lo (by omega)
  have h3 : mkAt ms i ≤ mkAt ms (g - 1) := mk_le h (by omega) (by have := a.le; omega)
  omega
/-- the least mark that is at least y, where y is above the mark ahead of k -/
theorem least_at {ms : List Int} (h : ms.Pairwise (· < ·)) {k : Nat} {y : Int} (hk : k ≤ ms.length) (lo : 0 < k → mkAt ms (k - 1) < y) (hi : k < ms.length → y ≤ mkAt ms k) : least ms y = if k < ms.length then some (mkAt ms k) else none := by
  refine head_filter h (fun i hi' hl => decide_eq_false ?_) (fun hl => decide_eq_true (hi hl)) hk
  have h1 := lo (by omega)
  have h3 : mkAt ms i ≤ mkAt ms (k - 1) := mk_le h (by omega) (by omega)
  omega

/-! ### room enough -/
theorem enough_refl (r : Rm) : isEnough r r = true := by
  cases r with
  | none => rfl
  | some a => exact decide_eq_true (Int.le_refl a)
theorem enough_trans {a b c : Rm} (h : isEnough a b = true) (h' : isEnough b c = true) : isEnough a c = true := by
  cases a with
  | none => rfl
  | some a =>
    cases b with
    | none => cases h
    | some b =>
      cases c with
      | none => cases h'
      | some c => exact decide_eq_true (Int.le_trans (of_decide_eq_true h') (of_decide_eq_true h))
theorem enough_some {a b : Int} : isEnough (some a) (some b) = true ↔ b ≤ a := ⟨fun h => of_decide_eq_true h, fun h => decide_eq_true h⟩
theorem enough_map {a b : Rm} (h : isEnough a b = true) : isEnough (a.map (· - 1)) (b.map (· - 1)) = true := by
  cases a with
  | none => rfl
  | some a =>
    cases b with
    | none => cases h
    | some b => exact decide_eq_true (by have := of_decide_eq_true h; show b - 1 ≤ a - 1; omega)
theorem mem_coming {ms : List Int} {g fl i : Nat} {r : Rm} : i ∈ coming ms g fl r ↔ fl ≤ i ∧ ((i = 0 ∧ (g = ms.length ∨ isEnough r (some 1) = true)) ∨ (i = 1 ∧ g ≠ ms.length) ∨ i = 2) := by
  unfold coming
  rw [List.mem_filter, decide_eq_true_eq, and_comm]
  refine and_congr_right fun _ => ?_
  rw [List.mem_append, List.mem_append, List.mem_singleton, ← or_assoc]
  refine or_congr_left (or_congr ?_ ?_)
  · by_cases h : g = ms.length ∨ isEnough r (some 1) = true
    · rw [if_pos h, List.mem_singleton]; exact ⟨fun e => ⟨e, h⟩, fun e => e.1⟩
    · rw [if_neg h]; exact ⟨fun e => (List.not_mem_nil e).elim, fun e => (h e.2).elim⟩
  · by_cases h : g = ms.length
    · rw [if_pos h]; exact ⟨fun e => (List.not_mem_nil e).elim, fun e => (e.2 h).elim⟩
    · rw [if_neg h, List.mem_singleton]; exact ⟨fun e => ⟨e, h⟩, fun e => e.1⟩
theorem coming_mono {ms : List Int} {g fl fl' i : Nat} {r r' : Rm} (h : i ∈ coming ms g fl r) (e : isEnough r' r = true) (hf : fl' ≤ i) : i ∈ coming ms g fl' r' := by
  obtain ⟨_, h⟩ := mem_coming.mp h
  refine mem_coming.mpr ⟨hf, ?_⟩
  rcases h with ⟨a, b⟩ | h | h
  · exact .inl ⟨a, b.imp id fun q => enough_trans e q⟩
  · exact .inr (.inl h)
  · exact .inr (.inr h)
theorem mem_steadyCases {ms : List Int} {g fl i : Nat} {r : Rm} : i ∈ steadyCases ms g fl r ↔ i ∈ coming ms g fl r ∧ (i < 2 ∨ g < ms.length) := by
  unfold steadyCases; rw [List.mem_filter, decide_eq_true_eq]
theorem mem_gapsFrom {ms : List Int} {a l : Nat} : l ∈ gapsFrom ms a ↔ a ≤ l ∧ l ≤ ms.length := by
  unfold gapsFrom; rw [List.mem_range'_1]; omega
theorem goals_mono {ms : List Int} {g i : Nat} {r r' : Rm} {mv : Mv} {y : Nat × Rm} (e : isEnough r' r = true) (h : y ∈ goals ms g r i mv) : ∃ z ∈ goals ms g r' i mv, z.1 = y.1 ∧ isEnough z.2 y.2 = true := by
  unfold goals at h ⊢
  split at h
  · cases h
  rename_i h1
  rw [if_neg h1]
  split at h
  · rename_i h2
    rw [if_pos h2]
    cases List.mem_singleton.mp h
    exact ⟨_, List.mem_singleton.mpr rfl, rfl, e⟩
  rename_i h2
  rw [if_neg h2]
  split at h
  · rename_i h3
    rw [if_pos h3]
    cases List.mem_singleton.mp h
    exact ⟨_, List.mem_singleton.mpr rfl, rfl, enough_map e⟩
  rename_i h3
  rw [if_neg h3]
  exact ⟨y, h, rfl, enough_refl _⟩

/-! ### the domain of spots and rooms -/
structure Dm (R : Rule) (B : Int) (x : Spot × Rm) : Prop where
  p : x.1.1 < R.N
  g : x.1.2.1 ≤ R.ms.length
  f : x.1.2.2 < 3
  e : x.2 = none ↔ (x.1.2.1 = 0 ∨ x.1.2.1 = R.ms.length)
  r : ∀ a, x.2 = some a → 0 ≤ a ∧ a ≤ B
structure Bd (ms : List Int) (B : Int) : Prop where
  le : ∀ g, 0 < g → g < ms.length → mkAt ms g - 1 - mkAt ms (g - 1) ≤ B
theorem markRoom_some {ms : List Int} {g : Nat} (h : g ≠ ms.length) : markRoom ms g = some (mkAt ms g - 1 - mkAt ms (g - 1)) := if_neg h
theorem markRoom_none {ms : List Int} : markRoom ms ms.length = none := if_pos rfl
theorem dm_mark {R : Rule} {B : Int} (w : R.WF) (b : Bd R.ms B) {p g f : Nat} (hp : p < R.N) (hf : f < 3) (h0 : 0 < g) (hg : g ≤ R.ms.length) : Dm R B ((p, g, f), markRoom R.ms g) := by
  refine ⟨hp, hg, hf, ?_, fun a e => ?_⟩
  · show markRoom R.ms g = none ↔ (g = 0 ∨ g = R.ms.length)
    by_cases h : g = R.ms.length
    · rw [h, markRoom_none]; simp
    · rw [markRoom_some h]; simp; omega
  · by_cases h : g = R.ms.length
    · have e : markRoom R.ms g = some a := e
      rw [h, markRoom_none] at e; cases e
    · have e : markRoom R.ms g = some a := e
      rw [markRoom_some h] at e; cases e
      have h1 := mk_lt w.asc (show g - 1 < g by omega) (by omega)
      exact ⟨by omega, b.le g h0 (by omega)⟩
theorem pr_lt {R : Rule} (w : R.WF) {p i : Nat} (hp : p < R.N) (hi : i < 3) : (R.pr p i).2 < R.N := by
  have hp' : p < R.ph.length := hp
  obtain ⟨h1, h2⟩ := w.ok R.ph[p] (List.getElem_mem _)
  have hi' : i < R.ph[p].length := by omega
  have e : R.pr p i = R.ph[p][i] := by
    unfold Rule.pr
    rw [show R.ph.getD p [] = R.ph[p] by rw [List.getD_eq_getElem?_getD, List.getElem?_eq_getElem hp', Option.getD_some], List.getD_eq_getElem?_getD, List.getElem?_eq_getElem hi', Option.getD_some]
  rw [e]
  exact h2 _ (List.getElem_mem _)
theorem dm_goals {R : Rule} {B : Int} (w : R.WF) (b : Bd R.ms B) {p q g f f' i : Nat} {r : Rm} {mv : Mv} (d : Dm R B ((p, g, f), r)) (hq : q < R.N) (hf : f' < 3) (hi : i ∈ coming R.ms g f r) {y : Nat × Rm} (h : y ∈ goals R.ms g r i mv) :
    Dm R B ((q, y.1, f'), y.2) := by
  unfold goals at h
  split at h
  · cases h
  split at h
  · cases List.mem_singleton.mp h
    exact ⟨hq, d.g, hf, d.e, d.r⟩
  split at h
  · rename_i h3
    cases List.mem_singleton.mp h
    refine ⟨hq, d.g, hf, ?_, fun a e => ?_⟩
    · refine Iff.trans ?_ d.e
      show r.map (· - 1) = none ↔ r = none
      cases r <;> simp
    · have e : r.map (· - 1) = some a := e
      cases r with
      | none => cases e
      | some c =>
        cases e
        obtain ⟨h0, h1⟩ := d.r c rfl
        obtain ⟨_, hh⟩ := mem_coming.mp hi
        have hg : ¬ (g = R.ms.length) := fun z => by have := d.e.mpr (.inr z); cases this
        rcases hh with ⟨_, q | q⟩ | ⟨q, _⟩ | q
        · exact absurd q hg
        · have := enough_some.mp q; exact ⟨by show 0 ≤ c - 1; omega, by show c - 1 ≤ B; omega⟩
        · omega
        · omega
  split at h
  · cases h
  rename_i hg
  have hgl : g < R.ms.length := Nat.lt_of_le_of_ne d.g hg
  split at h
  · cases List.mem_singleton.mp h
    exact dm_mark w b hq hf (by omega) (by omega)
  split at h
  · obtain ⟨l, hl, e⟩ := List.mem_filterMap.mp h
    obtain ⟨l1, l2⟩ := mem_gapsFrom.mp hl
    have D := dm_mark w b (p := q) (f := f') hq hf (show 0 < l by omega) l2
    unfold farGoal at e
    split at e
    · rename_i em
      cases e
      rw [em] at D; exact D
    · rename_i c em
      rw [em] at D
      split at e
      · cases e; exact D
      split at e
      · rename_i hc
        cases e
        refine ⟨D.p, D.g, D.f, ?_, fun a ea => ?_⟩
        · have De : some c = none ↔ (l = 0 ∨ l = R.ms.length) := D.e
          show some (c - 1) = none ↔ (l = 0 ∨ l = R.ms.length)
          rw [← De]; simp
        · cases ea
          have Dr := D.r c rfl
          exact ⟨by omega, by omega⟩
      · cases e
  · obtain ⟨l, hl, e⟩ := List.mem_map.mp h
    obtain ⟨l1, l2⟩ := mem_gapsFrom.mp hl
    cases e
    exact dm_mark w b hq hf (by omega) l2
theorem coming_lt {ms : List Int} {g fl i : Nat} {r : Rm} (h : i ∈ coming ms g fl r) : i < 3 := by
  obtain ⟨_, h⟩ := mem_coming.mp h
  omega
theorem dm_first {R : Rule} {B : Int} (w : R.WF) (b : Bd R.ms B) {x : Spot × Rm} (h : x ∈ firstSpots R.ms) : Dm R B x := by
  obtain ⟨g, hg, e⟩ := List.mem_map.mp h
  cases e
  have hg := List.mem_range.mp hg
  unfold firstRoom
  by_cases h0 : g = 0
  · rw [if_pos h0]
    exact ⟨w.pos, by show g ≤ _; omega, by show 0 < 3; decide, by simp [h0], fun a e => by cases e⟩
  · rw [if_neg h0]
    exact dm_mark w b w.pos (by decide) (by omega) (by omega)
theorem dm_any {R : Rule} {B : Int} (w : R.WF) (b : Bd R.ms B) {x y : Spot × Rm} (d : Dm R B x) (h : y ∈ anySteps R x.1 x.2) : Dm R B y := by
  obtain ⟨⟨p, g, f⟩, r⟩ := x
  obtain ⟨i, hi, h⟩ := List.mem_flatMap.mp h
  obtain ⟨z, hz, e⟩ := List.mem_map.mp h
  subst e
  have hi3 := coming_lt hi
  refine dm_goals w b d (pr_lt w d.p hi3) ?_ hi hz
  split
  · exact hi3
  · decide
theorem mb_lt {R : Rule} (w : R.WF) {i : Nat} (hi : i < 3) : ∀ {k p : Nat} {m : Mv × Nat}, p < R.N → moveBehind R i k p = some m → m.2 < R.N ∧ m.1 ≠ .wait
  | 0, _, _, _, h => by cases h
  | k + 1, p, m, hp, h => by
    unfold moveBehind at h
    split at h
    · exact mb_lt w hi (pr_lt w hp hi) h
    · rename_i hn
      cases h
      exact ⟨pr_lt w hp hi, hn⟩
theorem dm_steady {R : Rule} {B : Int} (w : R.WF) (b : Bd R.ms B) {x y : Spot × Rm} (d : Dm R B x) (h : y ∈ steadySteps R x.1 x.2) : Dm R B y ∧ y.1.2.2 = 0 := by
  obtain ⟨⟨p, g, f⟩, r⟩ := x
  obtain ⟨i, hi, h⟩ := List.mem_flatMap.mp h
  have hi := (mem_steadyCases.mp hi).1
  unfold steadyBy at h
  split at h
  · cases h
  · rename_i m em
    obtain ⟨z, hz, e⟩ := List.mem_map.mp h
    subst e
    exact ⟨dm_goals w b d (mb_lt w (coming_lt hi) d.p em).1 (by decide) hi hz, rfl⟩
theorem dm_rch {R : Rule} {B : Int} (w : R.WF) (b : Bd R.ms B) {x : Spot × Rm} (h : Rch (steadySteps R) (firstSpots R.ms) x) : Dm R B x ∧ x.1.2.2 = 0 := by
  induction h with
  | start h =>
    refine ⟨dm_first w b h, ?_⟩
    obtain ⟨g, hg, e⟩ := List.mem_map.mp h
    rw [← e]
  | step _ h ih => exact dm_steady w b ih.1 h
theorem dm_rch_any {R : Rule} {B : Int} (w : R.WF) (b : Bd R.ms B) {x : Spot × Rm} (h : Rch (anySteps R) (firstSpots R.ms) x) : Dm R B x := by
  induction h with
  | start h => exact dm_first w b h
  | step _ h ih => exact dm_any w b ih h
end K24
namespace K24
/-! ### steps on the law's side -/
section
variable {ms : List Int} {g : Nat} {x y : Int}
theorem case_near (h : ms.Pairwise (· < ·)) (a : IsGap ms g x) (q : g = ms.length ∨ y < mkAt ms g) : caseOf ms x y = 0 := by
  unfold caseOf
  rw [upper_gap h a]
  by_cases hg : g < ms.length
  · rw [if_pos hg]
    have : y < mkAt ms g := q.elim (fun z => by omega) id
    show (if y < mkAt ms g then 0 else _) = 0
    rw [if_pos this]
  · rw [if_neg hg]
theorem case_at (h : ms.Pairwise (· < ·)) (a : IsGap ms g x) (hg : g < ms.length) (e : y = mkAt ms g) : caseOf ms x y = 1 := by
  unfold caseOf
  rw [upper_gap h a, if_pos hg]
  show (if y < mkAt ms g then 0 else if y = mkAt ms g then 1 else 2) = 1
  rw [if_neg (by omega), if_pos e]
theorem case_far (h : ms.Pairwise (· < ·)) (a : IsGap ms g x) (hg : g < ms.length) (e : mkAt ms g < y) : caseOf ms x y = 2 := by
  unfold caseOf
  rw [upper_gap h a, if_pos hg]
  show (if y < mkAt ms g then 0 else if y = mkAt ms g then 1 else 2) = 2
  rw [if_neg (by omega), if_neg (by omega)]
theorem gap_mark (h : ms.Pairwise (· < ·)) (hg : g < ms.length) : IsGap ms (g + 1) (mkAt ms g) :=
  ⟨hg, fun _ => by rw [Nat.add_sub_cancel]; exact Int.le_refl _, fun q => mk_lt h (Nat.lt_succ_self g) q⟩
theorem gap_near (a : IsGap ms g x) (hxy : x ≤ y) (q : g < ms.length → y < mkAt ms g) : IsGap ms g y :=
  ⟨a.le, fun z => Int.le_trans (a.lo z) hxy, q⟩
/-- the room of an integer, none in the outer gap -/
def crm (ms : List Int) (x : Int) : Rm := if gapOf ms x = ms.length then none else some (roomOf ms x)
theorem crm_gap (h : ms.Pairwise (· < ·)) (a : IsGap ms g x) : crm ms x = if g = ms.length then none else some (mkAt ms g - x - 1) := by
  unfold crm roomOf
  rw [gapOf_eq h a]
theorem mark_enough (h : ms.Pairwise (· < ·)) (a : IsGap ms g x) (h0 : 0 < g) : isEnough (markRoom ms g) (crm ms x) = true := by
  rw [crm_gap h a]
  unfold markRoom
  by_cases e : g = ms.length
  · rw [if_pos e]; rfl
  · rw [if_neg e, if_neg e]
    refine enough_some.mpr ?_
    have := a.lo h0
    omega
/-- what a move leads to is among the goals -/
theorem goal_sound (h : ms.Pairwise (· < ·)) (a : IsGap ms g x) (hxy : x < y) {r : Rm} (hr : isEnough r (crm ms x) = true) {mv : Mv} (hw : mv ≠ .wait) {e : Int} (he : endOf ms mv x y = some e) :
    ∃ r', (gapOf ms e, r') ∈ goals ms g r (caseOf ms x y) mv ∧ isEnough r' (crm ms e) = true := by
  by_cases hg : g = ms.length
  · -- the outer gap
    rw [case_near h a (.inl hg)]
    cases mv with
    | wait => exact absurd rfl hw
    | out => cases he
    | next =>
      have : least ms y = none := by
        rw [least_at (ms := ms) (k := g) (y := y) h a.le (fun z => Int.lt_of_le_of_lt (a.lo z) hxy) (fun z => by omega), if_neg (by omega)]
      have he : least ms y = some e := he
      rw [this] at he; cases he
    | take =>
      have e1 : y = e := Option.some.inj he
      subst e1
      have ay : IsGap ms g y := gap_near a (Int.le_of_lt hxy) (fun z => by omega)
      refine ⟨r.map (· - 1), ?_, ?_⟩
      · rw [gapOf_eq h ay]
        unfold goals
        rw [if_neg (by decide), if_neg (by decide), if_pos ⟨rfl, rfl⟩]
        exact List.mem_singleton.mpr rfl
      · rw [crm_gap h a, if_pos hg] at hr
        rw [crm_gap h ay, if_pos hg]
        cases r with
        | none => rfl
        | some c => cases hr
  · have hgl : g < ms.length := Nat.lt_of_le_of_ne a.le hg
    have hlo := a.hi hgl
    rcases Int.lt_trichotomy y (mkAt ms g) with q | q | q
    · rw [case_near h a (.inr q)]
      cases mv with
      | wait => exact absurd rfl hw
      | out => cases he
      | next =>
        have he : least ms y = some e := he
        rw [least_at (ms := ms) (k := g) (y := y) h a.le (fun z => Int.lt_of_le_of_lt (a.lo z) hxy) (fun _ => Int.le_of_lt q), if_pos hgl] at he
        have e1 := Option.some.inj he
        subst e1
        have ae := gap_mark h hgl
        refine ⟨markRoom ms (g + 1), ?_, mark_enough h ae (by omega)⟩
        rw [gapOf_eq h ae]
        unfold goals
        rw [if_neg (by decide), if_neg (by decide), if_neg (by rintro ⟨z, _⟩; cases z), if_neg hg, if_pos (by decide)]
        exact List.mem_singleton.mpr rfl
      | take =>
        have e1 : y = e := Option.some.inj he
        subst e1
        have ay : IsGap ms g y := gap_near a (Int.le_of_lt hxy) (fun _ => q)
        refine ⟨r.map (· - 1), ?_, ?_⟩
        · rw [gapOf_eq h ay]
          unfold goals
          rw [if_neg (by decide), if_neg (by decide), if_pos ⟨rfl, rfl⟩]
          exact List.mem_singleton.mpr rfl
        · rw [crm_gap h a, if_neg hg] at hr
          rw [crm_gap h ay, if_neg hg]
          cases r with
          | none => rfl
          | some c =>
            have := enough_some.mp hr
            exact enough_some.mpr (show mkAt ms g - y - 1 ≤ c - 1 by omega)
    · rw [case_at h a hgl q]
      have ae := gap_mark h hgl
      have ee : mv ≠ .out → e = mkAt ms g := fun ho => by
        cases mv with
        | wait => exact absurd rfl hw
        | out => exact absurd rfl ho
        | take =>
          have e1 : y = e := Option.some.inj he
          rw [← e1]; exact q
        | next =>
          have he : least ms y = some e := he
          rw [least_at (ms := ms) (k := g) (y := y) h a.le (fun z => Int.lt_of_le_of_lt (a.lo z) hxy) (fun _ => Int.le_of_eq q), if_pos hgl] at he
          exact (Option.some.inj he).symm
      by_cases ho : mv = .out
      · subst ho; cases he
      · have e1 := ee ho
        subst e1
        refine ⟨markRoom ms (g + 1), ?_, mark_enough h ae (by omega)⟩
        rw [gapOf_eq h ae]
        unfold goals
        rw [if_neg ho, if_neg hw, if_neg (by rintro ⟨_, z⟩; cases z), if_neg hg, if_pos (by decide)]
        exact List.mem_singleton.mpr rfl
    · rw [case_far h a hgl q]
      cases mv with
      | wait => exact absurd rfl hw
      | out => cases he
      | take =>
        have e1 : y = e := Option.some.inj he
        subst e1
        have ay := isGap_of h y
        have hlt : g + 1 ≤ gapOf ms y := by
          rcases Nat.lt_or_ge g (gapOf ms y) with z | z
          · exact z
          · have h1 := ay.hi (Nat.lt_of_le_of_lt z hgl)
            have h2 := mk_le h z hgl
            omega
        have key : ∃ r', farGoal ms g (gapOf ms y) = some (gapOf ms y, r') ∧ isEnough r' (crm ms y) = true := by
          generalize hG : gapOf ms y = G at ay hlt
          unfold farGoal
          by_cases eo : G = ms.length
          · refine ⟨none, ?_, rfl⟩
            rw [eo, markRoom_none]
          · rw [markRoom_some eo]
            rw [crm_gap h ay, if_neg eo]
            have h0 := ay.lo (by omega)
            have h1 := ay.hi (Nat.lt_of_le_of_ne ay.le eo)
            by_cases e2 : g + 1 < G
            · refine ⟨some _, if_pos e2, enough_some.mpr (by omega)⟩
            · have e3 : G = g + 1 := by omega
              subst e3
              rw [Nat.add_sub_cancel] at *
              have hp : 0 < mkAt ms (g + 1) - 1 - mkAt ms g := by omega
              refine ⟨some (mkAt ms (g + 1) - 1 - mkAt ms g - 1), ?_, enough_some.mpr (by omega)⟩
              show (if g + 1 < g + 1 then _ else _) = _
              rw [if_neg e2, if_pos hp]
        obtain ⟨r', e1, e2⟩ := key
        refine ⟨r', ?_, e2⟩
        unfold goals
        rw [if_neg (by decide), if_neg (by decide), if_neg (by rintro ⟨_, z⟩; cases z), if_neg hg, if_neg (by decide), if_pos rfl]
        exact List.mem_filterMap.mpr ⟨gapOf ms y, mem_gapsFrom.mpr ⟨hlt, ay.le⟩, e1⟩
      | next =>
        have he : least ms y = some e := he
        -- the place of the least mark that is at least y
        have ay := isGap_of h (y - 1)
        have hl := least_at (ms := ms) (k := gapOf ms (y - 1)) (y := y) h ay.le (fun z => by have := ay.lo z; omega) (fun z => by have := ay.hi z; omega)
        rw [hl] at he
        split at he
        · rename_i hk
          have e1 := Option.some.inj he
          have hlt : g + 1 ≤ gapOf ms (y - 1) := by
            rcases Nat.lt_or_ge g (gapOf ms (y - 1)) with z | z
            · exact z
            · have h1 := ay.hi hk
              have h2 := mk_le h z hgl
              omega
          subst e1
          have ae := gap_mark h hk
          refine ⟨markRoom ms (gapOf ms (y - 1) + 1), ?_, mark_enough h ae (by omega)⟩
          rw [gapOf_eq h ae]
          unfold goals
          rw [if_neg (by decide), if_neg (by decide), if_neg (by rintro ⟨_, z⟩; cases z), if_neg hg, if_neg (by decide), if_neg (by decide)]
          exact List.mem_map.mpr ⟨_, mem_gapsFrom.mpr ⟨by omega, by omega⟩, rfl⟩
        · cases he
/-- in which cases an integer can come -/
theorem case_sound (h : ms.Pairwise (· < ·)) (a : IsGap ms g x) (hxy : x < y) {r : Rm} (hr : isEnough r (crm ms x) = true) : caseOf ms x y ∈ steadyCases ms g 0 r := by
  by_cases hg : g = ms.length
  · rw [case_near h a (.inl hg)]
    exact mem_steadyCases.mpr ⟨mem_coming.mpr ⟨Nat.le_refl _, .inl ⟨rfl, .inl hg⟩⟩, .inl (by decide)⟩
  · have hgl : g < ms.length := Nat.lt_of_le_of_ne a.le hg
    rcases Int.lt_trichotomy y (mkAt ms g) with q | q | q
    · rw [case_near h a (.inr q)]
      refine mem_steadyCases.mpr ⟨mem_coming.mpr ⟨Nat.le_refl _, .inl ⟨rfl, .inr ?_⟩⟩, .inl (by decide)⟩
      refine enough_trans hr ?_
      rw [crm_gap h a, if_neg hg]
      exact enough_some.mpr (by omega)
    · rw [case_at h a hgl q]
      exact mem_steadyCases.mpr ⟨mem_coming.mpr ⟨Nat.zero_le _, .inr (.inl ⟨rfl, hg⟩)⟩, .inl (by decide)⟩
    · rw [case_far h a hgl q]
      exact mem_steadyCases.mpr ⟨mem_coming.mpr ⟨Nat.zero_le _, .inr (.inr rfl)⟩, .inr hgl⟩
theorem case_lt3 (ms : List Int) (x y : Int) : caseOf ms x y < 3 := by
  unfold caseOf
  split
  · decide
  · split
    · decide
    · split <;> decide
end
end K24
namespace K24
/-! ### counting -/
theorem nodup_le {α : Type} [DecidableEq α] : ∀ {l u : List α}, l.Nodup → (∀ x ∈ l, x ∈ u) → l.length ≤ u.length
  | [], _, _, _ => Nat.zero_le _
  | x :: l, u, hn, hs => by
    have h := List.nodup_cons.mp hn
    have hx : x ∈ u := hs x List.mem_cons_self
    have ih := nodup_le (u := u.erase x) h.2 fun y hy => (List.mem_erase_of_ne (by rintro rfl; exact h.1 hy)).mpr (hs y (List.mem_cons_of_mem _ hy))
    rw [List.length_erase_of_mem hx] at ih
    have : 0 < u.length := List.length_pos_of_mem hx
    rw [List.length_cons]; omega
theorem pigeon {N k : Nat} (f : Nat → Nat) (hf : ∀ j, j ≤ k → f j < N) (hk : N ≤ k) : ∃ i j, i < j ∧ j ≤ k ∧ f i = f j := by
  apply Classical.byContradiction
  intro hc
  have hn : ((List.range (k + 1)).map f).Nodup := by
    rw [List.Nodup, List.pairwise_map]
    refine List.Pairwise.imp_of_mem ?_ List.pairwise_lt_range
    intro a b ha hb hab e
    exact hc ⟨a, b, hab, by have := List.mem_range.mp hb; omega, e⟩
  have h := nodup_le (u := List.range N) hn fun x hx => by
    obtain ⟨j, hj, e⟩ := List.mem_map.mp hx
    rw [← e]
    exact List.mem_range.mpr (hf j (by have := List.mem_range.mp hj; omega))
  rw [List.length_map, List.length_range, List.length_range] at h
  omega
def Pth (E : Nat → Nat → Prop) (S : Nat → Prop) (k p : Nat) : Prop := ∃ f : Nat → Nat, S (f 0) ∧ f k = p ∧ ∀ j, j < k → E (f j) (f (j + 1))
theorem Pth.add {E : Nat → Nat → Prop} {S : Nat → Prop} {k p q : Nat} (h : Pth E S k p) (e : E p q) : Pth E S (k + 1) q := by
  obtain ⟨f, h0, hk, hs⟩ := h
  refine ⟨fun j => if j ≤ k then f j else q, ?_, ?_, fun j hj => ?_⟩
  · show S (if 0 ≤ k then f 0 else q)
    rw [if_pos (Nat.zero_le _)]; exact h0
  · show (if k + 1 ≤ k then f (k + 1) else q) = q
    rw [if_neg (by omega)]
  · show E (if j ≤ k then f j else q) (if j + 1 ≤ k then f (j + 1) else q)
    rw [if_pos (by omega)]
    by_cases h : j + 1 ≤ k
    · rw [if_pos h]; exact hs j h
    · rw [if_neg h]
      have : j = k := by omega
      rw [this, hk]; exact e
theorem Pth.short {E : Nat → Nat → Prop} {S : Nat → Prop} {N : Nat} (hS : ∀ p, S p → p < N) (hE : ∀ p q, E p q → q < N) {p : Nat} : ∀ (k : Nat), Pth E S k p → ∃ k', k' < N ∧ Pth E S k' p := by
  intro k
  induction k using Nat.strongRecOn with
  | ind k ih =>
    intro h
    by_cases hk : k < N
    · exact ⟨k, hk, h⟩
    · obtain ⟨f, h0, he, hs⟩ := h
      have hf : ∀ j, j ≤ k → f j < N := fun j hj => by
        cases j with
        | zero => exact hS _ h0
        | succ j => exact hE _ _ (hs j hj)
      obtain ⟨i, j, hij, hjk, e⟩ := pigeon f hf (by omega)
      refine ih (k - (j - i)) (by omega) ⟨fun t => if t ≤ i then f t else f (t + (j - i)), ?_, ?_, fun t ht => ?_⟩
      · show S (if 0 ≤ i then f 0 else _)
        rw [if_pos (Nat.zero_le _)]; exact h0
      · show (if k - (j - i) ≤ i then f (k - (j - i)) else f (k - (j - i) + (j - i))) = p
        by_cases q : k - (j - i) ≤ i
        · rw [if_pos q]
          have e1 : k = j := by omega
          have e2 : k - (j - i) = i := by omega
          rw [e2, e, ← e1]; exact he
        · rw [if_neg q, show k - (j - i) + (j - i) = k by omega]; exact he
      · show E (if t ≤ i then f t else f (t + (j - i))) (if t + 1 ≤ i then f (t + 1) else f (t + 1 + (j - i)))
        by_cases q : t + 1 ≤ i
        · rw [if_pos q, if_pos (by omega)]; exact hs t (by omega)
        · rw [if_neg q]
          by_cases q2 : t ≤ i
          · have : t = i := by omega
            rw [if_pos q2, this, e, show i + 1 + (j - i) = j + 1 by omega]; exact hs j (by omega)
          · rw [if_neg q2, show t + 1 + (j - i) = (t + (j - i)) + 1 by omega]; exact hs _ (by omega)

/-! ### waits -/
section
variable {R : Rule} {i : Nat}
def it (R : Rule) (i : Nat) : Nat → Nat → Nat
  | 0, p => p
  | k + 1, p => it R i k (R.pr p i).2
theorem it_succ (k p : Nat) : it R i (k + 1) p = (R.pr (it R i k p) i).2 := by
  induction k generalizing p with
  | zero => rfl
  | succ k ih => exact ih _
theorem it_add (a b p : Nat) : it R i (a + b) p = it R i b (it R i a p) := by
  induction a generalizing p with
  | zero => rw [Nat.zero_add]; rfl
  | succ a ih => rw [show a + 1 + b = (a + b) + 1 by omega]; exact ih _
theorem it_lt (w : R.WF) (hi : i < 3) {p : Nat} (hp : p < R.N) (k : Nat) : it R i k p < R.N := by
  cases k with
  | zero => exact hp
  | succ k =>
    rw [it_succ]
    exact pr_lt w (it_lt w hi hp k) hi
theorem mb_of : ∀ {fuel p k : Nat}, k < fuel → (∀ j, j < k → (R.pr (it R i j p) i).1 = .wait) → (R.pr (it R i k p) i).1 ≠ .wait → moveBehind R i fuel p = some (R.pr (it R i k p) i)
  | 0, _, _, h, _, _ => by omega
  | fuel + 1, p, 0, _, _, hn => by
    unfold moveBehind
    rw [if_neg (show ¬ (R.pr p i).1 = .wait from hn)]; rfl
  | fuel + 1, p, k + 1, h, hw, hn => by
    unfold moveBehind
    rw [if_pos (show (R.pr p i).1 = .wait from hw 0 (by omega))]
    exact mb_of (p := (R.pr p i).2) (k := k) (by omega) (fun j hj => hw (j + 1) (by omega)) hn
theorem mb_to : ∀ {fuel p : Nat} {m : Mv × Nat}, moveBehind R i fuel p = some m → ∃ k, (∀ j, j < k → (R.pr (it R i j p) i).1 = .wait) ∧ m = R.pr (it R i k p) i ∧ m.1 ≠ .wait
  | 0, _, _, h => by cases h
  | fuel + 1, p, m, h => by
    unfold moveBehind at h
    split at h
    · rename_i hw
      obtain ⟨k, h1, h2, h3⟩ := mb_to h
      refine ⟨k + 1, fun j hj => ?_, h2, h3⟩
      cases j with
      | zero => exact hw
      | succ j => exact h1 j (by omega)
    · rename_i hw
      cases h
      exact ⟨0, fun j hj => by omega, rfl, hw⟩
theorem waits_lt (w : R.WF) (hi : i < 3) {p k : Nat} (hp : p < R.N) (hw : ∀ j, j < k → (R.pr (it R i j p) i).1 = .wait) (hn : (R.pr (it R i k p) i).1 ≠ .wait) : k < R.N := by
  rcases Nat.lt_or_ge k R.N with q | q
  · exact q
  · obtain ⟨a, b, hab, hb, e⟩ := pigeon (fun j => it R i j p) (fun j _ => it_lt w hi hp j) q
    have e : it R i a p = it R i b p := e
    have e1 : it R i (a + (k - b)) p = it R i k p := by
      rw [it_add, e, ← it_add, show b + (k - b) = k by omega]
    have := hw (a + (k - b)) (by omega)
    rw [e1] at this
    exact absurd this hn
end

/-! ### what the law reaches, the program has -/
section
variable {R : Rule} {F : List (Spot × Rm)} {B : Int}
structure Snd (R : Rule) (F : List (Spot × Rm)) (s : Stand) : Prop where
  le : s.2.1 ≤ s.2.2
  ex : ∃ p r, ((p, gapOf R.ms s.2.1, 0), r) ∈ F ∧ isEnough r (crm R.ms s.2.1) = true ∧ (s.2.1 = s.2.2 → p = s.1) ∧
    (s.2.1 < s.2.2 → ∃ k, s.1 = it R (caseOf R.ms s.2.1 s.2.2) k p ∧ ∀ j, j < k → (R.pr (it R (caseOf R.ms s.2.1 s.2.2) j p) (caseOf R.ms s.2.1 s.2.2)).1 = .wait)
theorem first_enough (w : R.WF) (x : Int) : isEnough (firstRoom R.ms (gapOf R.ms x)) (crm R.ms x) = true := by
  unfold firstRoom
  by_cases h0 : gapOf R.ms x = 0
  · rw [if_pos h0]; rfl
  · rw [if_neg h0]; exact mark_enough w.asc (isGap_of w.asc x) (by omega)
theorem snd_of (w : R.WF) (b : Bd R.ms B) (hF : Fix (steadySteps R) (firstSpots R.ms) F) {s : Stand} (h : CRl R s) : Snd R F s := by
  induction h with
  | @first x hx =>
    have hg := (isGap_of w.asc x).le
    obtain ⟨r, h1, h2⟩ := hF.start ((0, gapOf R.ms x, 0), firstRoom R.ms (gapOf R.ms x)) (List.mem_map.mpr ⟨gapOf R.ms x, List.mem_range.mpr (by omega), rfl⟩)
    exact ⟨Int.le_refl _, 0, r, h1, enough_trans h2 (first_enough w x), fun _ => rfl, fun z => absurd z (Int.lt_irrefl _)⟩
  | @step s y s' hs hy hm ih =>
    obtain ⟨p', x, l⟩ := s
    obtain ⟨hle, p, r, hF1, hr, hp1, hp2⟩ := ih
    have hle : x ≤ l := hle
    have hF1 : ((p, gapOf R.ms x, 0), r) ∈ F := hF1
    have hr : isEnough r (crm R.ms x) = true := hr
    have hp1 : x = l → p = p' := hp1
    have hp2 : x < l → ∃ k, p' = it R (caseOf R.ms x l) k p ∧ ∀ j, j < k → (R.pr (it R (caseOf R.ms x l) j p) (caseOf R.ms x l)).1 = .wait := hp2
    have hxy : x < y ∧ ∃ k, p' = it R (caseOf R.ms x y) k p ∧ ∀ j, j < k → (R.pr (it R (caseOf R.ms x y) j p) (caseOf R.ms x y)).1 = .wait := by
      unfold lates at hy
      by_cases e : x = l
      · have hy : y ∈ rangeI (l + 1) (mostOf R + 1) := by rw [if_pos (show (p', x, l).2.1 = (p', x, l).2.2 from e)] at hy; exact hy
        have := mem_rangeI.mp hy
        exact ⟨by omega, 0, (hp1 e).symm, fun j hj => by omega⟩
      · have hy : y ∈ [l] := by rw [if_neg (show ¬ (p', x, l).2.1 = (p', x, l).2.2 from e)] at hy; exact hy
        cases List.mem_singleton.mp hy
        exact ⟨by omega, hp2 (by omega)⟩
    obtain ⟨hxy, k, hk, hw⟩ := hxy
    have hi := case_lt3 R.ms x y
    have hgx := isGap_of w.asc x
    have hN : p < R.N := (dm_rch w b (hF.sound _ hF1)).1.p
    unfold movedTo at hm
    have hm : (endOf R.ms (R.pr p' (caseOf R.ms x y)).1 x y).map (fun e => ((R.pr p' (caseOf R.ms x y)).2, e, if (R.pr p' (caseOf R.ms x y)).1 = .wait then y else e)) = some s' := hm
    cases he : endOf R.ms (R.pr p' (caseOf R.ms x y)).1 x y with
    | none => rw [he] at hm; cases hm
    | some e =>
      rw [he] at hm
      have hm : some ((R.pr p' (caseOf R.ms x y)).2, e, if (R.pr p' (caseOf R.ms x y)).1 = .wait then y else e) = some s' := hm
      cases hm
      by_cases hwt : (R.pr p' (caseOf R.ms x y)).1 = .wait
      · rw [hwt] at he
        cases (show some x = some e from he)
        rw [if_pos hwt]
        refine ⟨Int.le_of_lt hxy, p, r, hF1, hr, fun z => ?_, fun _ => ⟨k + 1, ?_, fun j hj => ?_⟩⟩
        · have z : x = y := z
          omega
        · show (R.pr p' (caseOf R.ms x y)).2 = _
          rw [it_succ, ← hk]
        · rcases Nat.lt_or_ge j k with q | q
          · exact hw j q
          · have : j = k := by omega
            subst this
            show (R.pr (it R (caseOf R.ms x y) j p) (caseOf R.ms x y)).1 = .wait
            rw [← hk]; exact hwt
      · rw [if_neg hwt]
        have hmb : moveBehind R (caseOf R.ms x y) R.N p = some (R.pr p' (caseOf R.ms x y)) := by
          have hn : (R.pr (it R (caseOf R.ms x y) k p) (caseOf R.ms x y)).1 ≠ .wait := by rw [← hk]; exact hwt
          rw [mb_of (waits_lt w hi hN hw hn) hw hn, ← hk]
        obtain ⟨r', hg1, hg2⟩ := goal_sound w.asc hgx hxy hr hwt he
        have hstep : (((R.pr p' (caseOf R.ms x y)).2, gapOf R.ms e, 0), r') ∈ steadySteps R (p, gapOf R.ms x, 0) r := by
          refine List.mem_flatMap.mpr ⟨caseOf R.ms x y, case_sound w.asc hgx hxy hr, ?_⟩
          unfold steadyBy
          rw [hmb]
          exact List.mem_map.mpr ⟨_, hg1, rfl⟩
        obtain ⟨r2, h1, h2⟩ := hF.closed _ hF1 _ hstep
        exact ⟨Int.le_refl _, _, r2, h1, enough_trans h2 hg2, fun _ => rfl, fun z => absurd z (Int.lt_irrefl _)⟩
end
end K24
namespace K24
/-! ### what the program reaches, the law finds in its window -/
section
variable {R : Rule} {B : Int}
def topM (R : Rule) : Int := mkAt (tops R.ms) ((tops R.ms).length - 1)
theorem tops_ne {ms : List Int} (h : ms ≠ []) : tops ms = ms := if_neg h
theorem topM_eq (h : 0 < R.ms.length) : topM R = mkAt R.ms (R.ms.length - 1) := by
  unfold topM
  rw [tops_ne (fun e => by rw [e] at h; exact absurd h (by decide))]
theorem mostOf_eq : mostOf R = topM R + R.N + 3 := rfl
theorem cr_wait {p i : Nat} {x y : Int} (hc : CRl R (p, x, x)) (hxy : x < y) (hy : y ≤ mostOf R) (hi : caseOf R.ms x y = i) :
    ∀ k, (∀ j, j < k + 1 → (R.pr (it R i j p) i).1 = .wait) → CRl R (it R i (k + 1) p, x, y)
  | 0, hw => by
    refine CRl.step hc (y := y) ?_ ?_
    · unfold lates
      rw [if_pos (show (p, x, x).2.1 = (p, x, x).2.2 from rfl)]
      exact mem_rangeI.mpr ⟨by show x + 1 ≤ y; omega, by omega⟩
    · have h0 : (R.pr p i).1 = .wait := hw 0 (by omega)
      unfold movedTo
      show (endOf R.ms (R.pr p (caseOf R.ms x y)).1 x y).map (fun e => ((R.pr p (caseOf R.ms x y)).2, e, if (R.pr p (caseOf R.ms x y)).1 = .wait then y else e)) = some ((R.pr p i).2, x, y)
      rw [hi, h0]; rfl
  | k + 1, hw => by
    have ih := cr_wait hc hxy hy hi k fun j hj => hw j (by omega)
    refine CRl.step ih (y := y) ?_ ?_
    · unfold lates
      rw [if_neg (show ¬ x = y by omega)]
      exact List.mem_singleton.mpr rfl
    · have h0 : (R.pr (it R i (k + 1) p) i).1 = .wait := hw (k + 1) (by omega)
      unfold movedTo
      show (endOf R.ms (R.pr (it R i (k + 1) p) (caseOf R.ms x y)).1 x y).map (fun e => ((R.pr (it R i (k + 1) p) (caseOf R.ms x y)).2, e, if (R.pr (it R i (k + 1) p) (caseOf R.ms x y)).1 = .wait then y else e)) = some (it R i (k + 2) p, x, y)
      rw [hi, h0, it_succ (k + 1)]; rfl
theorem cr_move {p i fuel : Nat} {x y e : Int} {m : Mv × Nat} (hc : CRl R (p, x, x)) (hxy : x < y) (hy : y ≤ mostOf R) (hi : caseOf R.ms x y = i) (hm : moveBehind R i fuel p = some m) (he : endOf R.ms m.1 x y = some e) : CRl R (m.2, e, e) := by
  obtain ⟨k, hw, hmk, hn⟩ := mb_to hm
  have fin : ∀ l, CRl R (it R i k p, x, l) → y ∈ lates (mostOf R) (it R i k p, x, l) → CRl R (m.2, e, e) := fun l h1 h2 => by
    refine CRl.step h1 h2 ?_
    unfold movedTo
    show (endOf R.ms (R.pr (it R i k p) (caseOf R.ms x y)).1 x y).map (fun e => ((R.pr (it R i k p) (caseOf R.ms x y)).2, e, if (R.pr (it R i k p) (caseOf R.ms x y)).1 = .wait then y else e)) = some (m.2, e, e)
    rw [hi, ← hmk, he]
    show some (m.2, e, if m.1 = .wait then y else e) = _
    rw [if_neg hn]
  cases k with
  | zero =>
    refine fin x hc ?_
    unfold lates
    rw [if_pos (show x = x from rfl)]
    exact mem_rangeI.mpr ⟨by show x + 1 ≤ y; omega, by omega⟩
  | succ k =>
    refine fin y (cr_wait hc hxy hy hi k hw) ?_
    unfold lates
    rw [if_neg (show ¬ x = y by omega)]
    exact List.mem_singleton.mpr rfl

/-- a goal is met by some integer -/
structure Met (ms : List Int) (g i : Nat) (mv : Mv) (x : Int) (g' : Nat) (r' : Rm) (y e : Int) : Prop where
  lt : x < y
  cs : caseOf ms x y = i
  en : endOf ms mv x y = some e
  gp : IsGap ms g' e
  mid : 0 < g' → g' < ms.length → r' = some (mkAt ms g' - e - 1)
  out : g = ms.length → y = x + 1 ∧ g' = ms.length ∧ i = 0 ∧ mv = .take
  inn : g < ms.length → y ≤ mkAt ms (ms.length - 1) + 1
  top : g < ms.length → g' = ms.length → e ≤ mkAt ms (ms.length - 1) + 1
  low : g < ms.length → g' = 0 → g = 0 ∧ i = 0 ∧ mv = .take
theorem goal_real {ms : List Int} (h : ms.Pairwise (· < ·)) {g i : Nat} {x : Int} {r : Rm} {mv : Mv} {z : Nat × Rm} (a : IsGap ms g x) (hi : i ∈ steadyCases ms g 0 r) (hw : mv ≠ .wait)
    (mid : 0 < g → g < ms.length → r = some (mkAt ms g - x - 1)) (low : g = 0 → 0 < ms.length → x + 1 < mkAt ms 0) (hz : z ∈ goals ms g r i mv) : ∃ y e, Met ms g i mv x z.1 z.2 y e := by
  obtain ⟨hi, hi2⟩ := mem_steadyCases.mp hi
  obtain ⟨_, hi⟩ := mem_coming.mp hi
  by_cases hg : g = ms.length
  · -- the outer gap
    have hi0 : i = 0 := by
      rcases hi with ⟨q, _⟩ | ⟨_, q⟩ | q
      · exact q
      · exact absurd hg q
      · omega
    subst hi0
    cases mv with
    | wait => exact absurd rfl hw
    | out => unfold goals at hz; rw [if_pos rfl] at hz; cases hz
    | next =>
      unfold goals at hz
      rw [if_neg (by decide), if_neg (by decide), if_neg (by rintro ⟨q, _⟩; cases q), if_pos hg] at hz
      cases hz
    | take =>
      unfold goals at hz
      rw [if_neg (by decide), if_neg (by decide), if_pos ⟨rfl, rfl⟩] at hz
      cases List.mem_singleton.mp hz
      exact ⟨x + 1, x + 1, by omega, case_near h a (.inl hg), rfl, gap_near a (by omega) (fun q => by omega), fun _ q => by have q : g < ms.length := q; omega, fun _ => ⟨rfl, hg, rfl, rfl⟩, fun q => by omega, fun q => by omega, fun q => by omega⟩
  · have hgl : g < ms.length := Nat.lt_of_le_of_ne a.le hg
    have hx := a.hi hgl
    have hlast : ∀ k, k < ms.length → mkAt ms k ≤ mkAt ms (ms.length - 1) := fun k hk => mk_le h (by omega) (by omega)
    have near1 : i = 0 → x + 1 < mkAt ms g := fun e0 => by
      rcases Nat.eq_zero_or_pos g with q | q
      · have := low q (by omega)
        rw [q]; exact this
      · rcases hi with ⟨_, q2⟩ | ⟨q2, _⟩ | q2
        · rcases q2 with q2 | q2
          · exact absurd q2 hg
          · rw [mid q hgl] at q2
            have := enough_some.mp q2
            omega
        · omega
        · omega
    unfold goals at hz
    by_cases h1 : mv = .out
    · rw [if_pos h1] at hz; cases hz
    rw [if_neg h1] at hz
    rw [if_neg hw] at hz
    split at hz
    · rename_i h3
      obtain ⟨e1, e2⟩ := h3
      subst e1; subst e2
      cases List.mem_singleton.mp hz
      have hn := near1 rfl
      refine ⟨x + 1, x + 1, by omega, case_near h a (.inr hn), rfl, gap_near a (by omega) (fun _ => hn), fun q1 q2 => ?_, fun q => absurd q hg, fun _ => ?_, fun _ q => absurd q hg, fun _ q => ⟨q, rfl, rfl⟩⟩
      · rw [mid q1 q2]
        show some (mkAt ms g - x - 1 - 1) = some (mkAt ms g - (x + 1) - 1)
        congr 1; omega
      · have := hlast g hgl; omega
    rename_i h3
    split at hz
    · rename_i h5
      cases List.mem_singleton.mp hz
      have ae := gap_mark h hgl
      have fin : ∀ y, x < y → caseOf ms x y = i → endOf ms mv x y = some (mkAt ms g) → y ≤ mkAt ms g → ∃ y e, Met ms g i mv x (g + 1) (markRoom ms (g + 1)) y e := fun y b1 b2 b3 b4 => by
        have := hlast g hgl
        refine ⟨y, mkAt ms g, b1, b2, b3, ae, fun _ q => ?_, fun q => absurd q hg, fun _ => by omega, fun _ _ => by omega, fun _ q => by omega⟩
        rw [markRoom_some (by omega), Nat.add_sub_cancel]
        congr 1; omega
      by_cases e1 : i = 1
      · subst e1
        refine fin (mkAt ms g) hx (case_at h a hgl rfl) ?_ (Int.le_refl _)
        cases mv with
        | take => rfl
        | out => exact absurd rfl h1
        | wait => exact absurd rfl hw
        | next =>
          show least ms (mkAt ms g) = some (mkAt ms g)
          rw [least_at (ms := ms) (k := g) (y := mkAt ms g) h a.le (fun z => Int.lt_of_le_of_lt (a.lo z) hx) (fun _ => Int.le_refl _), if_pos hgl]
      · have e0 : i = 0 := by omega
        subst e0
        have hn := near1 rfl
        cases mv with
        | take => exact absurd ⟨rfl, rfl⟩ h3
        | out => exact absurd rfl h1
        | wait => exact absurd rfl hw
        | next =>
          refine fin (x + 1) (by omega) (case_near h a (.inr hn)) ?_ (Int.le_of_lt hn)
          show least ms (x + 1) = some (mkAt ms g)
          rw [least_at (ms := ms) (k := g) (y := x + 1) h a.le (fun z => by have := a.lo z; omega) (fun _ => Int.le_of_lt hn), if_pos hgl]
    rename_i h5
    have hi2 : i = 2 := by
      rcases hi with ⟨q, _⟩ | ⟨q, _⟩ | q
      · omega
      · omega
      · exact q
    subst hi2
    split at hz
    · rename_i h6
      subst h6
      obtain ⟨l, hl, e⟩ := List.mem_filterMap.mp hz
      obtain ⟨l1, l2⟩ := mem_gapsFrom.mp hl
      have fin : ∀ y r', mkAt ms g < y → IsGap ms l y → y ≤ mkAt ms (ms.length - 1) + 1 → (l < ms.length → r' = some (mkAt ms l - y - 1)) → ∃ y e, Met ms g 2 .take x l r' y e := fun y r' b1 b2 b3 b4 =>
        ⟨y, y, by omega, case_far h a hgl b1, rfl, b2, fun _ q => b4 q, fun q => absurd q hg, fun _ => b3, fun _ _ => b3, fun _ q => by omega⟩
      unfold farGoal at e
      by_cases eo : l = ms.length
      · rw [eo, markRoom_none] at e
        have e : some (ms.length, (none : Rm)) = some z := e
        cases e
        subst eo
        have := hlast g hgl
        refine fin (mkAt ms (ms.length - 1) + 1) _ (by omega) ⟨Nat.le_refl _, fun _ => by omega, fun q => absurd q (Nat.lt_irrefl _)⟩ (Int.le_refl _) fun q => absurd q (Nat.lt_irrefl _)
      · have hll : l < ms.length := Nat.lt_of_le_of_ne l2 eo
        rw [markRoom_some eo] at e
        have e : (if g + 1 < l then some (l, some (mkAt ms l - 1 - mkAt ms (l - 1))) else if 0 < mkAt ms l - 1 - mkAt ms (l - 1) then some (l, some (mkAt ms l - 1 - mkAt ms (l - 1) - 1)) else none) = some z := e
        split at e
        · rename_i q
          cases e
          have ga := gap_mark h (show l - 1 < ms.length by omega)
          rw [show l - 1 + 1 = l by omega] at ga
          have := hlast (l - 1) (by omega)
          refine fin (mkAt ms (l - 1)) _ (mk_lt h (by omega) (by omega)) ga (by omega) fun _ => ?_
          show some (mkAt ms l - 1 - mkAt ms (l - 1)) = some (mkAt ms l - mkAt ms (l - 1) - 1)
          congr 1; omega
        · rename_i q
          split at e
          · rename_i q2
            cases e
            have el : l = g + 1 := by omega
            subst el
            rw [Nat.add_sub_cancel] at *
            have := hlast g hgl
            refine fin (mkAt ms g + 1) _ (by omega) ⟨l2, fun _ => by rw [Nat.add_sub_cancel]; omega, fun _ => by omega⟩ (by omega) fun _ => ?_
            show some (mkAt ms (g + 1) - 1 - mkAt ms g - 1) = some (mkAt ms (g + 1) - (mkAt ms g + 1) - 1)
            congr 1; omega
          · cases e
    · rename_i h6
      obtain ⟨l, hl, e⟩ := List.mem_map.mp hz
      obtain ⟨l1, l2⟩ := mem_gapsFrom.mp hl
      cases e
      cases mv with
      | take => exact absurd rfl h6
      | out => exact absurd rfl h1
      | wait => exact absurd rfl hw
      | next =>
        have ga := gap_mark h (show l - 1 < ms.length by omega)
        rw [show l - 1 + 1 = l by omega] at ga
        have hm := mk_lt h (show g < l - 1 by omega) (show l - 1 < ms.length by omega)
        have := hlast (l - 1) (by omega)
        refine ⟨mkAt ms (l - 1), mkAt ms (l - 1), by omega, case_far h a hgl hm, ?_, ga, fun _ q => ?_, fun q => absurd q hg, fun _ => by omega, fun _ _ => by omega, fun _ q => by have q : l = 0 := q; omega⟩
        · show least ms (mkAt ms (l - 1)) = some (mkAt ms (l - 1))
          rw [least_at (ms := ms) (k := l - 1) (y := mkAt ms (l - 1)) h (by omega) (fun q => mk_lt h (by omega) (by omega)) (fun _ => Int.le_refl _), if_pos (by omega)]
        · have q : l < ms.length := q
          show markRoom ms l = some (mkAt ms l - mkAt ms (l - 1) - 1)
          rw [markRoom_some (by omega)]
          congr 1; omega
end
end K24
namespace K24
section
variable {R : Rule} {B : Int}
/-- a near take leads from phase to phase -/
def Ed (R : Rule) (p q : Nat) : Prop := q < R.N ∧ ∃ m, moveBehind R 0 R.N p = some m ∧ m.1 = .take ∧ m.2 = q
def Low (p : Nat) : Prop := p = 0
def Ent (R : Rule) (p : Nat) : Prop := p < R.N ∧ ∃ x, CRl R (p, x, x) ∧ IsGap R.ms R.ms.length x ∧ x ≤ topM R + 1
/-- a spot with its room is met -/
structure Good (R : Rule) (g : Nat) (r : Rm) (x : Int) : Prop where
  gp : IsGap R.ms g x
  mid : 0 < g → g < R.ms.length → r = some (mkAt R.ms g - x - 1)
  low : g = 0 → 0 < R.ms.length → x + 1 < mkAt R.ms 0
  out : g = R.ms.length → x + 1 ≤ mostOf R
structure Met3 (R : Rule) (x : Spot × Rm) : Prop where
  mid : 0 < x.1.2.1 → x.1.2.1 < R.ms.length → ∃ e, CRl R (x.1.1, e, e) ∧ Good R x.1.2.1 x.2 e
  low : x.1.2.1 = 0 → 0 < R.ms.length → ∃ k, Pth (Ed R) Low k x.1.1
  out : x.1.2.1 = R.ms.length → ∃ k, Pth (Ed R) (Ent R) k x.1.1
theorem tops_pos {ms : List Int} : 0 < (tops ms).length := by
  unfold tops
  by_cases h : ms = []
  · rw [if_pos h]; decide
  · rw [if_neg h]; exact List.length_pos_iff.mpr h
theorem tops_asc {ms : List Int} (h : ms.Pairwise (· < ·)) : (tops ms).Pairwise (· < ·) := by
  unfold tops
  split
  · simp
  · exact h
theorem bot_le (w : R.WF) : mkAt (tops R.ms) 0 ≤ topM R := mk_le (tops_asc w.asc) (Nat.zero_le _) (by have := tops_pos (ms := R.ms); omega)
theorem low_real (w : R.WF) (h0 : 0 < R.ms.length) {p k : Nat} (hp : Pth (Ed R) Low k p) : ∃ e, CRl R (p, e, e) ∧ IsGap R.ms 0 e ∧ e + 1 < mkAt R.ms 0 := by
  obtain ⟨k, hk, f, hf0, hfk, hs⟩ := Pth.short (N := R.N) (fun p (q : p = 0) => by rw [q]; exact w.pos) (fun _ _ q => q.1) k hp
  have hne : R.ms ≠ [] := fun e => by rw [e] at h0; exact absurd h0 (by decide)
  have hgap : ∀ e, e < mkAt R.ms 0 → IsGap R.ms 0 e := fun e he => ⟨Nat.zero_le _, fun q => absurd q (Nat.lt_irrefl _), fun _ => he⟩
  have hb := bot_le w
  rw [tops_ne hne] at hb
  have all : ∀ j, j ≤ k → CRl R (f j, mkAt R.ms 0 - R.N - 2 + j, mkAt R.ms 0 - R.N - 2 + j) := by
    intro j
    induction j with
    | zero =>
      intro _
      rw [show f 0 = 0 from hf0]
      refine CRl.first (mem_rangeI.mpr ?_)
      rw [tops_ne hne]
      have : mkAt R.ms (R.ms.length - 1) = topM R := (topM_eq h0).symm
      rw [this]
      constructor <;> omega
    | succ j ih =>
      intro hj
      obtain ⟨hq, m, hm, ht, hm2⟩ := hs j (by omega)
      have hx := hgap (mkAt R.ms 0 - R.N - 2 + j) (by omega)
      have h1 := cr_move (i := 0) (y := mkAt R.ms 0 - R.N - 2 + j + 1) (e := mkAt R.ms 0 - R.N - 2 + j + 1) (ih (by omega)) (by omega) (by rw [mostOf_eq]; omega) (case_near w.asc hx (.inr (by omega))) hm (by rw [ht]; rfl)
      rw [hm2] at h1
      rw [show mkAt R.ms 0 - R.N - 2 + ((j + 1 : Nat) : Int) = mkAt R.ms 0 - R.N - 2 + j + 1 by omega]
      exact h1
  have h1 := all k (Nat.le_refl _)
  rw [hfk] at h1
  exact ⟨_, h1, hgap _ (by omega), by omega⟩
theorem out_real (w : R.WF) {p k : Nat} (hp : Pth (Ed R) (Ent R) k p) : ∃ e, CRl R (p, e, e) ∧ IsGap R.ms R.ms.length e ∧ e + 1 ≤ mostOf R := by
  obtain ⟨k, hk, f, ⟨_, x0, hx0, hg0, hle⟩, hfk, hs⟩ := Pth.short (N := R.N) (fun p (q : Ent R p) => q.1) (fun _ _ q => q.1) k hp
  have hgap : ∀ j : Nat, IsGap R.ms R.ms.length (x0 + j) := fun j => gap_near hg0 (by omega) (fun q => absurd q (Nat.lt_irrefl _))
  have all : ∀ j, j ≤ k → CRl R (f j, x0 + j, x0 + j) := by
    intro j
    induction j with
    | zero => intro _; rw [show x0 + ((0 : Nat) : Int) = x0 by omega]; exact hx0
    | succ j ih =>
      intro hj
      obtain ⟨hq, m, hm, ht, hm2⟩ := hs j (by omega)
      have h1 := cr_move (i := 0) (y := x0 + j + 1) (e := x0 + j + 1) (ih (by omega)) (by omega) (by rw [mostOf_eq]; omega) (case_near w.asc (hgap j) (.inl rfl)) hm (by rw [ht]; rfl)
      rw [hm2] at h1
      rw [show x0 + ((j + 1 : Nat) : Int) = x0 + j + 1 by omega]
      exact h1
  have h1 := all k (Nat.le_refl _)
  rw [hfk] at h1
  exact ⟨_, h1, hgap k, by rw [mostOf_eq]; omega⟩
theorem Met3.good (w : R.WF) {x : Spot × Rm} (h : Met3 R x) (hg : x.1.2.1 ≤ R.ms.length) : ∃ e, CRl R (x.1.1, e, e) ∧ Good R x.1.2.1 x.2 e := by
  by_cases h1 : x.1.2.1 = R.ms.length
  · obtain ⟨k, hk⟩ := h.out h1
    obtain ⟨e, a, b, c⟩ := out_real w hk
    exact ⟨e, a, by rw [h1]; exact b, fun _ q => by omega, fun q1 q2 => by omega, fun _ => c⟩
  · by_cases h0 : x.1.2.1 = 0
    · obtain ⟨k, hk⟩ := h.low h0 (by omega)
      obtain ⟨e, a, b, c⟩ := low_real w (by omega) hk
      exact ⟨e, a, by rw [h0]; exact b, fun q _ => by omega, fun _ _ => c, fun q => absurd q h1⟩
    · exact h.mid (by omega) (by omega)
theorem met_of (w : R.WF) (b : Bd R.ms B) {x : Spot × Rm} (h : Rch (steadySteps R) (firstSpots R.ms) x) : Met3 R x := by
  have hmost := mostOf_eq (R := R)
  have hbot := bot_le w
  induction h with
  | @start x h =>
    obtain ⟨g, hg, e⟩ := List.mem_map.mp h
    subst e
    have hg := List.mem_range.mp hg
    have first : ∀ y, mkAt (tops R.ms) 0 - R.N - 2 ≤ y → y < topM R + 2 → CRl R (0, y, y) := fun y h1 h2 => CRl.first (mem_rangeI.mpr ⟨h1, h2⟩)
    refine ⟨fun h0 h1 => ?_, fun _ _ => ⟨0, fun _ => 0, rfl, rfl, fun j hj => by omega⟩, fun hn => ⟨0, fun _ => 0, ⟨w.pos, ?_⟩, rfl, fun j hj => by omega⟩⟩
    · have h0 : 0 < g := h0
      have h1 : g < R.ms.length := h1
      have ga := gap_mark w.asc (show g - 1 < R.ms.length by omega)
      rw [show g - 1 + 1 = g by omega] at ga
      refine ⟨mkAt R.ms (g - 1), first _ ?_ ?_, ga, fun _ _ => ?_, fun q => by have q : g = 0 := q; omega, fun q => by have q : g = R.ms.length := q; omega⟩
      · have := mk_le w.asc (Nat.zero_le (g - 1)) (by omega)
        rw [tops_ne (fun e => by rw [e] at h1; exact absurd h1 (Nat.not_lt_zero _))]
        omega
      · rw [topM_eq (by omega)]
        have := mk_le w.asc (show g - 1 ≤ R.ms.length - 1 by omega) (by omega)
        omega
      · show firstRoom R.ms g = _
        unfold firstRoom
        rw [if_neg (by omega), markRoom_some (by omega)]
        show some (mkAt R.ms g - 1 - mkAt R.ms (g - 1)) = some (mkAt R.ms g - mkAt R.ms (g - 1) - 1)
        congr 1; omega
    · have hn : g = R.ms.length := hn
      by_cases hz : 0 < R.ms.length
      · have ga := gap_mark w.asc (show R.ms.length - 1 < R.ms.length by omega)
        rw [show R.ms.length - 1 + 1 = R.ms.length by omega] at ga
        rw [topM_eq hz] at *
        exact ⟨mkAt R.ms (R.ms.length - 1), first _ (by omega) (by omega), ga, by omega⟩
      · have hnil : R.ms = [] := List.eq_nil_of_length_eq_zero (by omega)
        have ht : topM R = 0 := by unfold topM; rw [hnil]; rfl
        have hb2 : mkAt (tops R.ms) 0 = 0 := by rw [hnil]; rfl
        refine ⟨0, first 0 (by omega) (by omega), ⟨Nat.le_refl _, fun q => absurd q hz, fun q => absurd q (Nat.lt_irrefl _)⟩, by omega⟩
  | @step x y hx hy ih =>
    have dx := (dm_rch w b hx).1
    have dy := (dm_steady w b dx hy).1
    obtain ⟨e0, hc, G⟩ := ih.good w dx.g
    obtain ⟨i, hi, h⟩ := List.mem_flatMap.mp hy
    have hf0 := (dm_rch w b hx).2
    unfold steadyBy at h
    split at h
    · cases h
    rename_i m em
    obtain ⟨z, hz, e⟩ := List.mem_map.mp h
    subst e
    rw [hf0] at hi
    have hi3 := coming_lt (mem_steadyCases.mp hi).1
    have hmw := (mb_lt w hi3 dx.p em).2
    obtain ⟨y0, e, M⟩ := goal_real w.asc G.gp hi hmw G.mid (fun q1 q2 => G.low q1 q2) hz
    have hy0 : y0 ≤ mostOf R := by
      by_cases hg : x.1.2.1 = R.ms.length
      · rw [(M.out hg).1]; exact G.out hg
      · have h1 := M.inn (Nat.lt_of_le_of_ne dx.g hg)
        have h2 := dx.g
        rw [← topM_eq (by omega)] at h1
        omega
    have hcr := cr_move hc M.lt hy0 M.cs em M.en
    refine ⟨fun h0 h1 => ⟨e, hcr, M.gp, fun _ _ => M.mid h0 h1, fun q => ?_, fun q => ?_⟩, fun h0 h1 => ?_, fun h0 => ?_⟩
    · have h0 : 0 < z.1 := h0
      have q : z.1 = 0 := q
      omega
    · have h1 : z.1 < R.ms.length := h1
      have q : z.1 = R.ms.length := q
      omega
    · have h0 : z.1 = 0 := h0
      by_cases hg : x.1.2.1 = R.ms.length
      · have := (M.out hg).2.1
        omega
      · obtain ⟨q1, q2, q3⟩ := M.low (Nat.lt_of_le_of_ne dx.g hg) h0
        obtain ⟨k, hk⟩ := ih.low q1 h1
        subst q2
        exact ⟨k + 1, hk.add ⟨dy.p, m, em, q3, rfl⟩⟩
    · have h0 : z.1 = R.ms.length := h0
      by_cases hg : x.1.2.1 = R.ms.length
      · obtain ⟨_, _, q2, q3⟩ := M.out hg
        obtain ⟨k, hk⟩ := ih.out hg
        subst q2
        exact ⟨k + 1, hk.add ⟨dy.p, m, em, q3, rfl⟩⟩
      · have hl := Nat.lt_of_le_of_ne dx.g hg
        have h1 := M.top hl h0
        rw [← topM_eq (by omega)] at h1
        have gp := M.gp
        rw [h0] at gp
        exact ⟨0, fun _ => m.2, ⟨dy.p, e, hcr, gp, h1⟩, rfl, fun j hj => by omega⟩

/-! ### the two dicts are one -/
/-- what the law's dict holds, of the states in which the end does not wait -/
structure Due (R : Rule) (D : List (Spot × Rm)) : Prop where
  nd : (D.map (·.1)).Nodup
  mem : ∀ y ∈ D, y.1.2.2 = 0 ∧ (∃ x, CRl R (y.1.1, x, x) ∧ gapOf R.ms x = y.1.2.1) ∧ ((y.1.2.1 = 0 ∨ y.1.2.1 = R.ms.length) → y.2 = none) ∧
    (0 < y.1.2.1 → y.1.2.1 < R.ms.length → ∃ a, y.2 = some a ∧ (∃ x, CRl R (y.1.1, x, x) ∧ gapOf R.ms x = y.1.2.1 ∧ roomOf R.ms x = a) ∧ ∀ x, CRl R (y.1.1, x, x) → gapOf R.ms x = y.1.2.1 → roomOf R.ms x ≤ a)
  has : ∀ p x, CRl R (p, x, x) → ∃ v, ((p, gapOf R.ms x, 0), v) ∈ D
theorem key_inj : ∀ {D : List (Spot × Rm)}, (D.map (·.1)).Nodup → ∀ {s : Spot} {a b : Rm}, (s, a) ∈ D → (s, b) ∈ D → a = b
  | [], _, _, _, _, h, _ => by cases h
  | x :: D, h, s, a, b, h1, h2 => by
    have hn := List.nodup_cons.mp h
    rcases List.mem_cons.mp h1 with e1 | h1
    · rcases List.mem_cons.mp h2 with e2 | h2
      · rw [← e1] at e2; exact (Prod.mk.inj e2).2.symm
      · exact absurd (List.mem_map.mpr ⟨_, h2, by rw [← e1]⟩) hn.1
    · rcases List.mem_cons.mp h2 with e2 | h2
      · exact absurd (List.mem_map.mpr ⟨_, h1, by rw [← e2]⟩) hn.1
      · exact key_inj hn.2 h1 h2
theorem told_due (w : R.WF) (b : Bd R.ms B) {F D : List (Spot × Rm)} (hF : Fix (steadySteps R) (firstSpots R.ms) F) (hD : Due R D) (y : Spot × Rm) : y ∈ F ↔ y ∈ D := by
  have key : ∀ y ∈ F, y ∈ D := by
    rintro ⟨⟨p, g, f⟩, r⟩ hy
    have hr := hF.sound _ hy
    obtain ⟨d, hf⟩ := dm_rch w b hr
    have hf : f = 0 := hf
    subst hf
    obtain ⟨e, hc, G⟩ := (met_of w b hr).good w d.g
    have eg : gapOf R.ms e = g := gapOf_eq w.asc G.gp
    obtain ⟨v, hv⟩ := hD.has _ _ hc
    rw [eg] at hv
    obtain ⟨_, _, h1, h2⟩ := hD.mem _ hv
    have ev : r = v := by
      by_cases hg : g = 0 ∨ g = R.ms.length
      · have e1 : v = none := h1 hg
        have e2 : r = none := d.e.mpr hg
        rw [e1, e2]
      · have hgl : g ≤ R.ms.length := d.g
        obtain ⟨a, e1, ⟨x, hx1, hx2, hx3⟩, h3⟩ := h2 (show 0 < g by omega) (show g < R.ms.length by omega)
        have e1 : v = some a := e1
        have e2 : r = some (mkAt R.ms g - e - 1) := G.mid (by show 0 < g; omega) (by show g < _; omega)
        have hle := h3 e hc eg
        have er : roomOf R.ms e = mkAt R.ms g - e - 1 := by unfold roomOf; rw [eg]
        have S := snd_of w b hF hx1
        obtain ⟨_, p0, r0, hm, hen, hp, _⟩ := S
        have hm : ((p0, gapOf R.ms x, 0), r0) ∈ F := hm
        have hp : p0 = p := hp rfl
        have hx2 : gapOf R.ms x = g := hx2
        rw [hp, hx2] at hm
        have er0 := key_inj hF.nd hm hy
        rw [er0] at hen
        have hen : isEnough r (crm R.ms x) = true := hen
        unfold crm at hen
        rw [if_neg (by rw [hx2]; omega), hx3, e2] at hen
        have := enough_some.mp hen
        rw [e1, e2]
        congr 1; omega
    rw [ev]; exact hv
  refine ⟨key y, fun hy => ?_⟩
  obtain ⟨⟨p, g, f⟩, v⟩ := y
  obtain ⟨hf, ⟨x, hx1, hx2⟩, _⟩ := hD.mem _ hy
  have hf : f = 0 := hf
  subst hf
  obtain ⟨_, p0, r0, hm, _, hp, _⟩ := snd_of w b hF hx1
  have hm : ((p0, gapOf R.ms x, 0), r0) ∈ F := hm
  have hp : p0 = p := hp rfl
  have hx2 : gapOf R.ms x = g := hx2
  rw [hp, hx2] at hm
  have := key_inj hD.nd (key _ hm) hy
  rw [← this]; exact hm

/-! ### spots_of has all of them, with room enough -/
theorem dominated (w : R.WF) (b : Bd R.ms B) {F G : List (Spot × Rm)} (hF : Fix (steadySteps R) (firstSpots R.ms) F) (hG : Fix (anySteps R) (firstSpots R.ms) G) {y : Spot × Rm} (hy : y ∈ F) :
    ∃ r, (y.1, r) ∈ G ∧ ∀ a, y.2 = some a → ∃ c, r = some c ∧ a ≤ c := by
  have cov : ∀ y, Rch (steadySteps R) (firstSpots R.ms) y → Cov G y := by
    intro y h
    induction h with
    | start h => exact hG.start _ h
    | @step x y hx hy ih =>
      have dx := (dm_rch w b hx).1
      have hf0 := (dm_rch w b hx).2
      obtain ⟨⟨p, g, f⟩, r⟩ := x
      have hf0 : f = 0 := hf0
      subst hf0
      obtain ⟨r0, h0, e0⟩ := ih
      have h0 : ((p, g, 0), r0) ∈ G := h0
      have e0 : isEnough r0 r = true := e0
      obtain ⟨i, hi, h⟩ := List.mem_flatMap.mp hy
      have hi := (mem_steadyCases.mp hi).1
      have hi : i ∈ coming R.ms g 0 r := hi
      unfold steadyBy at h
      split at h
      · cases h
      rename_i m em
      obtain ⟨z, hz, e⟩ := List.mem_map.mp h
      subst e
      have hz : z ∈ goals R.ms g r i m.1 := hz
      obtain ⟨k, hw, hm, hn⟩ := mb_to em
      -- the waits
      have along : ∀ j, j ≤ k → ∃ f r1, f ≤ i ∧ ((it R i j p, g, f), r1) ∈ G ∧ isEnough r1 r = true := by
        intro j
        induction j with
        | zero => intro _; exact ⟨0, r0, Nat.zero_le _, h0, e0⟩
        | succ j ihj =>
          intro hj
          obtain ⟨f, r1, hf, h1, e1⟩ := ihj (by omega)
          have hi1 := coming_mono hi e1 hf
          have hwt := hw j (by omega)
          have hst : (((R.pr (it R i j p) i).2, g, i), r1) ∈ anySteps R (it R i j p, g, f) r1 := by
            refine List.mem_flatMap.mpr ⟨i, hi1, ?_⟩
            unfold stepsBy
            refine List.mem_map.mpr ⟨(g, r1), ?_, ?_⟩
            · show (g, r1) ∈ goals R.ms g r1 i (R.pr (it R i j p) i).1
              rw [hwt]
              unfold goals
              rw [if_neg (by decide), if_pos rfl]
              exact List.mem_singleton.mpr rfl
            · show (((R.pr (it R i j p) i).2, g, if (R.pr (it R i j p) i).1 = .wait then i else 0), r1) = _
              rw [if_pos hwt]
          obtain ⟨r2, h2, e2⟩ := hG.closed _ h1 _ hst
          refine ⟨i, r2, Nat.le_refl _, ?_, enough_trans e2 e1⟩
          rw [it_succ]; exact h2
      obtain ⟨f, r1, hf, h1, e1⟩ := along k (Nat.le_refl _)
      obtain ⟨z', hz', ez, en⟩ := goals_mono e1 hz
      have hst : ((m.2, z'.1, 0), z'.2) ∈ anySteps R (it R i k p, g, f) r1 := by
        refine List.mem_flatMap.mpr ⟨i, coming_mono hi e1 hf, ?_⟩
        unfold stepsBy
        refine List.mem_map.mpr ⟨z', ?_, ?_⟩
        · show z' ∈ goals R.ms g r1 i (R.pr (it R i k p) i).1
          rw [← hm]; exact hz'
        · show (((R.pr (it R i k p) i).2, z'.1, if (R.pr (it R i k p) i).1 = .wait then i else 0), z'.2) = _
          rw [← hm, if_neg hn]
      obtain ⟨r2, h2, e2⟩ := hG.closed _ h1 _ hst
      rw [ez] at h2
      exact ⟨r2, h2, enough_trans e2 en⟩
  obtain ⟨r, h1, h2⟩ := cov y (hF.sound _ hy)
  refine ⟨r, h1, fun a ea => ?_⟩
  have d := (dm_rch w b (hF.sound _ hy)).1
  have d2 := dm_rch_any w b (hG.sound _ h1)
  cases r with
  | none =>
    have := d.e.mpr (d2.e.mp rfl)
    rw [ea] at this; cases this
  | some c =>
    rw [ea] at h2
    exact ⟨c, rfl, enough_some.mp h2⟩
end
end K24
namespace K24
/-! ### the worklist, in plain data -/
def look (F : List (Spot × Rm)) (s : Spot) : Option Rm := (F.find? fun x => decide (x.1 = s)).map (·.2)
def putF (F : List (Spot × Rm)) (s : Spot) (r : Rm) : List (Spot × Rm) := if (F.any fun x => decide (x.1 = s)) = true then F.map fun x => if x.1 = s then (x.1, r) else x else F ++ [(s, r)]
theorem look_mem : ∀ {F : List (Spot × Rm)} {s : Spot} {r : Rm}, look F s = some r → (s, r) ∈ F
  | [], _, _, h => by cases h
  | x :: F, s, r, h => by
    unfold look at h
    rw [List.find?_cons] at h
    by_cases e : x.1 = s
    · rw [decide_eq_true e] at h
      have h : some x.2 = some r := h
      cases h
      rw [← e]; exact List.mem_cons_self
    · rw [decide_eq_false e] at h
      exact List.mem_cons_of_mem _ (look_mem h)
theorem look_none : ∀ {F : List (Spot × Rm)} {s : Spot}, look F s = none → ∀ x ∈ F, x.1 ≠ s
  | [], _, _, _, h => by cases h
  | y :: F, s, h, x, hx => by
    unfold look at h
    rw [List.find?_cons] at h
    by_cases e : y.1 = s
    · rw [decide_eq_true e] at h; cases h
    · rw [decide_eq_false e] at h
      rcases List.mem_cons.mp hx with rfl | hx
      · exact e
      · exact look_none h x hx
theorem mem_look {F : List (Spot × Rm)} (nd : (F.map (·.1)).Nodup) {s : Spot} {r : Rm} (h : (s, r) ∈ F) : look F s = some r := by
  cases e : look F s with
  | none => exact absurd rfl (look_none e _ h)
  | some q => rw [key_inj nd (look_mem e) h]
theorem any_look (F : List (Spot × Rm)) (s : Spot) : (F.any fun x => decide (x.1 = s)) = (look F s).isSome := by
  induction F with
  | nil => rfl
  | cons x F ih =>
    unfold look
    rw [List.any_cons, List.find?_cons]
    by_cases e : x.1 = s
    · rw [decide_eq_true e]; rfl
    · rw [decide_eq_false e, Bool.false_or, ih]; rfl
theorem mem_putF {F : List (Spot × Rm)} {s : Spot} {r : Rm} {x : Spot × Rm} : x ∈ putF F s r ↔ x = (s, r) ∨ (x ∈ F ∧ x.1 ≠ s) := by
  unfold putF
  split
  · rename_i h
    rw [List.mem_map]
    constructor
    · rintro ⟨y, hy, e⟩
      by_cases q : y.1 = s
      · rw [if_pos q] at e
        left; rw [← e, q]
      · rw [if_neg q] at e
        right; rw [← e]; exact ⟨hy, q⟩
    · rintro (rfl | ⟨h1, h2⟩)
      · obtain ⟨y, hy, e⟩ := List.any_eq_true.mp h
        have e := of_decide_eq_true e
        exact ⟨y, hy, by rw [if_pos e, e]⟩
      · exact ⟨x, h1, if_neg h2⟩
  · rename_i h
    rw [List.mem_append, List.mem_singleton]
    constructor
    · rintro (h1 | h1)
      · right
        refine ⟨h1, fun e => h (List.any_eq_true.mpr ⟨x, h1, decide_eq_true e⟩)⟩
      · left; exact h1
    · rintro (h1 | h1)
      · right; exact h1
      · left; exact h1.1
theorem nodup_putF {F : List (Spot × Rm)} (nd : (F.map (·.1)).Nodup) (s : Spot) (r : Rm) : ((putF F s r).map (·.1)).Nodup := by
  unfold putF
  split
  · have e : (F.map fun x => if x.1 = s then (x.1, r) else x).map (·.1) = F.map (·.1) := by
      rw [List.map_map]
      refine List.map_congr_left fun x _ => ?_
      show (if x.1 = s then (x.1, r) else x).1 = x.1
      split <;> rfl
    rw [e]; exact nd
  · rename_i h
    rw [List.map_append, List.nodup_append]
    refine ⟨nd, by simp, fun a ha b hb e => ?_⟩
    obtain ⟨x, hx, rfl⟩ := List.mem_map.mp ha
    have hb : b = s := by simpa using hb
    exact h (List.any_eq_true.mpr ⟨x, hx, decide_eq_true (e.trans hb)⟩)
theorem look_putF {F : List (Spot × Rm)} (nd : (F.map (·.1)).Nodup) (s : Spot) (r : Rm) (k : Spot) : look (putF F s r) k = if k = s then some r else look F k := by
  by_cases e : k = s
  · rw [if_pos e, e]
    exact mem_look (nodup_putF nd s r) (mem_putF.mpr (.inl rfl))
  · rw [if_neg e]
    cases h : look F k with
    | some q => exact mem_look (nodup_putF nd s r) (mem_putF.mpr (.inr ⟨look_mem h, e⟩))
    | none =>
      cases h2 : look (putF F s r) k with
      | none => rfl
      | some q =>
        rcases mem_putF.mp (look_mem h2) with h3 | h3
        · exact absurd (Prod.mk.inj h3).1 e
        · exact absurd rfl (look_none h _ h3.1)
/-- is y to be put in? -/
def wants (F : List (Spot × Rm)) (y : Spot × Rm) : Bool := match look F y.1 with
  | none => true
  | some r => !isEnough r y.2
theorem enough_total {a b : Rm} (h : isEnough a b = false) : isEnough b a = true := by
  cases a with
  | none => cases h
  | some a =>
    cases b with
    | none => rfl
    | some b =>
      have := of_decide_eq_false h
      exact decide_eq_true (by omega)
theorem cov_of_not {F : List (Spot × Rm)} {y : Spot × Rm} (h : wants F y = false) : Cov F y := by
  unfold wants at h
  split at h
  · cases h
  · rename_i r e
    exact ⟨r, look_mem e, by simpa using h⟩
theorem cov_put {F : List (Spot × Rm)} (nd : (F.map (·.1)).Nodup) {y z : Spot × Rm} (h : wants F y = true) (c : Cov F z) : Cov (putF F y.1 y.2) z := by
  obtain ⟨r, hr, e⟩ := c
  by_cases q : z.1 = y.1
  · refine ⟨y.2, mem_putF.mpr (.inl (by rw [q])), ?_⟩
    have hl := mem_look nd hr
    unfold wants at h
    rw [← q, hl] at h
    have h : isEnough r y.2 = false := by simpa using h
    exact enough_trans (enough_total h) e
  · exact ⟨r, mem_putF.mpr (.inr ⟨hr, q⟩), e⟩
theorem cov_new {F : List (Spot × Rm)} {y : Spot × Rm} : Cov (putF F y.1 y.2) y := ⟨y.2, mem_putF.mpr (.inl rfl), enough_refl _⟩

/-! ### what falls -/
def spotsU (N n : Nat) : List Spot := (List.range N).flatMap fun p => (List.range (n + 1)).flatMap fun g => (List.range 3).map fun f => (p, g, f)
theorem mem_spotsU {N n : Nat} {s : Spot} : s ∈ spotsU N n ↔ s.1 < N ∧ s.2.1 ≤ n ∧ s.2.2 < 3 := by
  obtain ⟨p, g, f⟩ := s
  unfold spotsU
  simp only [List.mem_flatMap, List.mem_map, List.mem_range, Prod.mk.injEq]
  constructor
  · rintro ⟨p', h1, g', h2, f', h3, rfl, rfl, rfl⟩
    exact ⟨h1, by omega, h3⟩
  · rintro ⟨h1, h2, h3⟩
    exact ⟨p, h1, g, by omega, f, h3, rfl, rfl, rfl⟩
theorem sum_const {α : Type} (f : α → Nat) (c : Nat) : ∀ {l : List α}, (∀ x ∈ l, f x = c) → (l.map f).sum = l.length * c
  | [], _ => by simp
  | x :: l, h => by
    rw [List.map_cons, List.sum_cons, sum_const f c fun y hy => h y (List.mem_cons_of_mem _ hy), h x List.mem_cons_self, List.length_cons, Nat.succ_mul]; omega
theorem spotsU_len (N n : Nat) : (spotsU N n).length = N * ((n + 1) * 3) := by
  unfold spotsU
  rw [List.length_flatMap, sum_const _ ((n + 1) * 3), List.length_range]
  intro p _
  rw [List.length_flatMap, sum_const _ 3, List.length_range]
  intro g _
  rw [List.length_map, List.length_range]
def rankR (B : Int) : Option Rm → Nat
  | none => (B + 2).toNat
  | some none => 0
  | some (some a) => (B + 1 - a).toNat
def weight (R : Rule) (B : Int) (F : List (Spot × Rm)) : Nat := ((spotsU R.N R.ms.length).map fun s => rankR B (look F s)).sum
theorem sum_le_of {α : Type} {f g : α → Nat} : ∀ {l : List α}, (∀ x ∈ l, f x ≤ g x) → (l.map f).sum ≤ (l.map g).sum
  | [], _ => Nat.le_refl _
  | x :: l, h => by
    rw [List.map_cons, List.map_cons, List.sum_cons, List.sum_cons]
    have := h x List.mem_cons_self
    have := sum_le_of (l := l) fun y hy => h y (List.mem_cons_of_mem _ hy)
    omega
theorem sum_lt_of {α : Type} {f g : α → Nat} : ∀ {l : List α} {z : α}, z ∈ l → (∀ x ∈ l, f x ≤ g x) → f z < g z → (l.map f).sum < (l.map g).sum
  | [], _, h, _, _ => by cases h
  | x :: l, z, hz, h, hl => by
    rw [List.map_cons, List.map_cons, List.sum_cons, List.sum_cons]
    rcases List.mem_cons.mp hz with e | hz
    · rw [← e]
      have := sum_le_of (l := l) fun y hy => h y (List.mem_cons_of_mem _ hy)
      omega
    · have := h x List.mem_cons_self
      have := sum_lt_of hz (fun y hy => h y (List.mem_cons_of_mem _ hy)) hl
      omega
theorem weight_put {R : Rule} {B : Int} (hB : 0 ≤ B) {F : List (Spot × Rm)} (nd : (F.map (·.1)).Nodup) {y : Spot × Rm} (d : Dm R B y) (dF : ∀ x ∈ F, Dm R B x) (h : wants F y = true) : weight R B (putF F y.1 y.2) < weight R B F := by
  unfold weight
  have key : rankR B (some y.2) < rankR B (look F y.1) := by
    unfold wants at h
    cases e : look F y.1 with
    | none =>
      rw [e] at h
      cases ey : y.2 with
      | none =>
        show 0 < (B + 2).toNat
        omega
      | some a =>
        have := d.r a ey
        show (B + 1 - a).toNat < (B + 2).toNat
        omega
    | some r =>
      rw [e] at h
      have h : isEnough r y.2 = false := by simpa using h
      cases r with
      | none => cases h
      | some a =>
        have hm := look_mem e
        have ha := (dF _ hm).r a rfl
        cases ey : y.2 with
        | none => show 0 < (B + 1 - a).toNat; omega
        | some b =>
          have hb := d.r b ey
          rw [ey] at h
          have := of_decide_eq_false h
          show (B + 1 - b).toNat < (B + 1 - a).toNat
          omega
  refine sum_lt_of (z := y.1) (mem_spotsU.mpr ⟨d.p, d.g, d.f⟩) (fun x _ => ?_) ?_
  · rw [look_putF nd]
    by_cases q : x = y.1
    · rw [if_pos q, q]; exact Nat.le_of_lt key
    · rw [if_neg q]; exact Nat.le_refl _
  · rw [look_putF nd, if_pos rfl]; exact key
theorem weight_le (R : Rule) {B : Int} (F : List (Spot × Rm)) (dF : ∀ x ∈ F, Dm R B x) : weight R B F ≤ R.N * ((R.ms.length + 1) * 3) * (B + 2).toNat := by
  unfold weight
  rw [← spotsU_len]
  have : ((spotsU R.N R.ms.length).map fun s => rankR B (look F s)).sum ≤ ((spotsU R.N R.ms.length).map fun _ => (B + 2).toNat).sum := by
    refine sum_le_of fun s _ => ?_
    cases e : look F s with
    | none => exact Nat.le_refl _
    | some r =>
      cases r with
      | none => exact Nat.zero_le _
      | some a =>
        have := (dF _ (look_mem e)).r a rfl
        show (B + 1 - a).toNat ≤ (B + 2).toNat
        omega
  rw [sum_const _ (B + 2).toNat fun _ _ => rfl] at this
  exact this

/-! ### what holds between two rounds -/
structure Wk (st : Spot → Rm → List (Spot × Rm)) (starts : List (Spot × Rm)) (D : Spot × Rm → Prop) (F L : List (Spot × Rm)) (cur : Option (Spot × Rm)) : Prop where
  nd : (F.map (·.1)).Nodup
  dF : ∀ x ∈ F, D x
  dL : ∀ x ∈ L, D x
  start : ∀ x ∈ starts, Cov F x
  sF : ∀ x ∈ F, Rch st starts x
  sL : ∀ x ∈ L, Rch st starts x
  closed : ∀ x ∈ F, x ∈ L ∨ cur = some x ∨ ∀ y ∈ st x.1 x.2, Cov F y
section
variable {st : Spot → Rm → List (Spot × Rm)} {starts F L : List (Spot × Rm)} {D : Spot × Rm → Prop} {x y : Spot × Rm} {cur : Option (Spot × Rm)}
theorem Wk.init (nd : (starts.map (·.1)).Nodup) (d : ∀ x ∈ starts, D x) : Wk st starts D starts starts none :=
  ⟨nd, d, d, fun x hx => ⟨x.2, hx, enough_refl _⟩, fun _ h => .start h, fun _ h => .start h, fun _ h => .inl h⟩
theorem Wk.pop (w : Wk st starts D F (L ++ [x]) none) : Wk st starts D F L (some x) :=
  ⟨w.nd, w.dF, fun z h => w.dL z (List.mem_append_left _ h), w.start, w.sF, fun z h => w.sL z (List.mem_append_left _ h), fun z hz => by
    rcases w.closed z hz with h | h | h
    · rcases List.mem_append.mp h with h | h
      · exact .inl h
      · exact .inr (.inl (by rw [List.mem_singleton.mp h]))
    · cases h
    · exact .inr (.inr h)⟩
theorem Wk.put (w : Wk st starts D F L cur) (d : D y) (r : Rch st starts y) (h : wants F y = true) : Wk st starts D (putF F y.1 y.2) (L ++ [y]) cur where
  nd := nodup_putF w.nd _ _
  dF := fun z hz => by
    rcases mem_putF.mp hz with e | e
    · rw [e]; exact d
    · exact w.dF _ e.1
  dL := fun z hz => by
    rcases List.mem_append.mp hz with e | e
    · exact w.dL _ e
    · rw [List.mem_singleton.mp e]; exact d
  start := fun z hz => cov_put w.nd h (w.start z hz)
  sF := fun z hz => by
    rcases mem_putF.mp hz with e | e
    · rw [e]; exact r
    · exact w.sF _ e.1
  sL := fun z hz => by
    rcases List.mem_append.mp hz with e | e
    · exact w.sL _ e
    · rw [List.mem_singleton.mp e]; exact r
  closed := fun z hz => by
    rcases mem_putF.mp hz with e | e
    · exact .inl (List.mem_append_right _ (List.mem_singleton.mpr e))
    · rcases w.closed z e.1 with q | q | q
      · exact .inl (List.mem_append_left _ q)
      · exact .inr (.inl q)
      · exact .inr (.inr fun u hu => cov_put w.nd h (q u hu))
theorem Wk.done (w : Wk st starts D F L (some x)) (h : ∀ y ∈ st x.1 x.2, Cov F y) : Wk st starts D F L none :=
  ⟨w.nd, w.dF, w.dL, w.start, w.sF, w.sL, fun z hz => by
    rcases w.closed z hz with q | q | q
    · exact .inl q
    · cases q; exact .inr (.inr h)
    · exact .inr (.inr q)⟩
theorem Wk.fix (w : Wk st starts D F [] none) : Fix st starts F :=
  ⟨w.nd, w.start, fun z hz => by
    rcases w.closed z hz with q | q | q
    · cases q
    · cases q
    · exact q, w.sF⟩
end
theorem F_len {R : Rule} {B : Int} {F : List (Spot × Rm)} (nd : (F.map (·.1)).Nodup) (dF : ∀ x ∈ F, Dm R B x) : F.length ≤ R.N * ((R.ms.length + 1) * 3) := by
  have h := nodup_le (u := spotsU R.N R.ms.length) nd fun s hs => by
    obtain ⟨x, hx, rfl⟩ := List.mem_map.mp hs
    have d := dF x hx
    exact mem_spotsU.mpr ⟨d.p, d.g, d.f⟩
  rw [List.length_map, spotsU_len] at h
  exact h
theorem firstSpots_nodup (ms : List Int) : ((firstSpots ms).map (·.1)).Nodup := by
  unfold firstSpots
  rw [List.map_map, List.Nodup, List.pairwise_map]
  refine List.Pairwise.imp ?_ List.pairwise_lt_range
  intro a b hab e
  have e : ((0, a, 0) : Spot) = (0, b, 0) := e
  have := (Prod.mk.inj (Prod.mk.inj e).2).1
  omega
end K24
namespace K24
/-! ### what the law's dict holds after some states -/
def keyOf (R : Rule) (s : Stand) : Spot := (s.1, gapOf R.ms s.2.1, 0)
structure DueS (R : Rule) (S : List Stand) (D : List (Spot × Rm)) : Prop where
  nd : (D.map (·.1)).Nodup
  fl : ∀ y ∈ D, y.1.2.2 = 0
  src : ∀ y ∈ D, ∃ s ∈ S, keyOf R s = y.1
  out : ∀ y ∈ D, (y.1.2.1 = 0 ∨ y.1.2.1 = R.ms.length) → y.2 = none
  mid : ∀ y ∈ D, 0 < y.1.2.1 → y.1.2.1 < R.ms.length → ∃ a, y.2 = some a ∧ (∃ s ∈ S, keyOf R s = y.1 ∧ roomOf R.ms s.2.1 = a) ∧ ∀ s ∈ S, keyOf R s = y.1 → roomOf R.ms s.2.1 ≤ a
  has : ∀ s ∈ S, ∃ v, (keyOf R s, v) ∈ D
theorem DueS.nil {R : Rule} : DueS R [] [] := ⟨List.nodup_nil, fun _ h => (nomatch h), fun _ h => (nomatch h), fun _ h => (nomatch h), fun _ h => (nomatch h), fun _ h => (nomatch h)⟩
theorem putF_len (F : List (Spot × Rm)) (s : Spot) (r : Rm) : (putF F s r).length ≤ F.length + 1 := by
  unfold putF
  split
  · rw [List.length_map]; omega
  · rw [List.length_append, List.length_singleton]; omega
theorem room_nn {R : Rule} (w : R.WF) {x : Int} (h : gapOf R.ms x < R.ms.length) : 0 ≤ roomOf R.ms x := by
  have := (isGap_of w.asc x).hi h
  unfold roomOf
  omega
theorem DueS.put {R : Rule} (w : R.WF) {S : List Stand} {D : List (Spot × Rm)} (h : DueS R S D) (s : Stand) {r : Rm}
    (h1 : (gapOf R.ms s.2.1 = 0 ∨ gapOf R.ms s.2.1 = R.ms.length) → r = none)
    (h2 : 0 < gapOf R.ms s.2.1 → gapOf R.ms s.2.1 < R.ms.length → look D (keyOf R s) = none → r = some (if roomOf R.ms s.2.1 > 0 then roomOf R.ms s.2.1 else 0))
    (h3 : ∀ a, 0 < gapOf R.ms s.2.1 → gapOf R.ms s.2.1 < R.ms.length → look D (keyOf R s) = some (some a) → r = some (if roomOf R.ms s.2.1 > a then roomOf R.ms s.2.1 else a)) :
    DueS R (S ++ [s]) (putF D (keyOf R s) r) := by
  have hS : ∀ z ∈ S, z ∈ S ++ [s] := fun z hz => List.mem_append_left _ hz
  have hs : s ∈ S ++ [s] := List.mem_append_right _ List.mem_cons_self
  have oth : ∀ {y : Spot × Rm} {z : Stand}, y.1 ≠ keyOf R s → z ∈ S ++ [s] → keyOf R z = y.1 → z ∈ S := fun hy hz e => by
    rcases List.mem_append.mp hz with q | q
    · exact q
    · rw [List.mem_singleton.mp q] at e; exact absurd e.symm hy
  refine ⟨nodup_putF h.nd _ _, fun y hy => ?_, fun y hy => ?_, fun y hy => ?_, fun y hy => ?_, fun z hz => ?_⟩
  · rcases mem_putF.mp hy with rfl | ⟨hy, _⟩
    · rfl
    · exact h.fl y hy
  · rcases mem_putF.mp hy with rfl | ⟨hy, _⟩
    · exact ⟨s, hs, rfl⟩
    · obtain ⟨z, hz, e⟩ := h.src y hy
      exact ⟨z, hS z hz, e⟩
  · rcases mem_putF.mp hy with rfl | ⟨hy, _⟩
    · exact h1
    · exact h.out y hy
  · rcases mem_putF.mp hy with rfl | ⟨hy, hne⟩
    · intro q1 q2
      have q1 : 0 < gapOf R.ms s.2.1 := q1
      have q2 : gapOf R.ms s.2.1 < R.ms.length := q2
      have nn := room_nn w q2
      cases hl : look D (keyOf R s) with
      | none =>
        have e := h2 q1 q2 hl
        have er : (if roomOf R.ms s.2.1 > 0 then roomOf R.ms s.2.1 else 0) = roomOf R.ms s.2.1 := by
          split <;> omega
        rw [er] at e
        refine ⟨_, e, ⟨s, hs, rfl, rfl⟩, fun z hz ez => ?_⟩
        rcases List.mem_append.mp hz with q | q
        · obtain ⟨v, hv⟩ := h.has z q
          exact absurd ez (look_none hl _ hv)
        · rw [List.mem_singleton.mp q]; exact Int.le_refl _
      | some v =>
        have hm := look_mem hl
        obtain ⟨a, ea, ⟨z0, hz0, ez0, er0⟩, hle⟩ := h.mid _ hm q1 q2
        have ea : v = some a := ea
        rw [ea] at hl
        have e := h3 a q1 q2 hl
        refine ⟨_, e, ?_, fun z hz ez => ?_⟩
        · by_cases hgt : roomOf R.ms s.2.1 > a
          · exact ⟨s, hs, rfl, by rw [if_pos hgt]⟩
          · exact ⟨z0, hS _ hz0, ez0, by rw [if_neg hgt]; exact er0⟩
        · rcases List.mem_append.mp hz with q | q
          · have := hle z q ez
            split <;> omega
          · rw [List.mem_singleton.mp q]
            split <;> omega
    · intro q1 q2
      obtain ⟨a, ea, ⟨z0, hz0, ez0, er0⟩, hle⟩ := h.mid _ hy q1 q2
      exact ⟨a, ea, ⟨z0, hS _ hz0, ez0, er0⟩, fun z hz ez => hle z (oth hne hz ez) ez⟩
  · rcases List.mem_append.mp hz with q | q
    · obtain ⟨v, hv⟩ := h.has z q
      by_cases e : keyOf R z = keyOf R s
      · exact ⟨r, mem_putF.mpr (.inl (by rw [e]))⟩
      · exact ⟨v, mem_putF.mpr (.inr ⟨hv, e⟩)⟩
    · rw [List.mem_singleton.mp q]
      exact ⟨r, mem_putF.mpr (.inl rfl)⟩
theorem DueS.due {R : Rule} {S : List Stand} {D : List (Spot × Rm)} (h : DueS R S D) (hS : ∀ s, s ∈ S ↔ (CRl R s ∧ s.2.1 = s.2.2)) : Due R D := by
  have un : ∀ {s : Stand}, s ∈ S → CRl R (s.1, s.2.1, s.2.1) := fun {s} hs => by
    obtain ⟨hc, e⟩ := (hS s).mp hs
    obtain ⟨p, x, l⟩ := s
    have e : x = l := e
    subst e
    exact hc
  refine ⟨h.nd, fun y hy => ⟨h.fl y hy, ?_, h.out y hy, fun q1 q2 => ?_⟩, fun p x hc => ?_⟩
  · obtain ⟨s, hs, e⟩ := h.src y hy
    exact ⟨s.2.1, by rw [← e]; exact un hs, by rw [← e]; rfl⟩
  · obtain ⟨a, ea, ⟨z, hz, ez, er⟩, hle⟩ := h.mid y hy q1 q2
    refine ⟨a, ea, ⟨z.2.1, by rw [← ez]; exact un hz, by rw [← ez]; rfl, er⟩, fun x hx hg => ?_⟩
    refine hle (y.1.1, x, x) ((hS _).mpr ⟨hx, rfl⟩) ?_
    unfold keyOf
    have hf := h.fl y hy
    obtain ⟨⟨p, g, f⟩, v⟩ := y
    have hf : f = 0 := hf
    have hg : gapOf R.ms x = g := hg
    subst hf
    show (p, gapOf R.ms x, 0) = (p, g, 0)
    rw [hg]
  · exact h.has (p, x, x) ((hS _).mpr ⟨hc, rfl⟩)
/-! ### the states are few -/
structure InU (N : Nat) (s : Stand) : Prop where
  p : s.1 < N
  a : -40 ≤ s.2.1 ∧ s.2.1 ≤ 40
  l : -40 ≤ s.2.2 ∧ s.2.2 ≤ 40
def univ (N : Nat) : List Stand := (List.range N).flatMap fun p => (rangeI (-40) 41).flatMap fun x => (rangeI (-40) 41).map fun l => (p, x, l)
theorem mem_univ {N : Nat} {s : Stand} (h : InU N s) : s ∈ univ N := by
  obtain ⟨p, x, l⟩ := s
  unfold univ
  refine List.mem_flatMap.mpr ⟨p, List.mem_range.mpr h.p, List.mem_flatMap.mpr ⟨x, mem_rangeI.mpr ?_, List.mem_map.mpr ⟨l, mem_rangeI.mpr ?_, rfl⟩⟩⟩
  · have h1 : -40 ≤ x ∧ x ≤ 40 := h.a
    omega
  · have h1 : -40 ≤ l ∧ l ≤ 40 := h.l
    omega
theorem rangeI_len (a b : Int) : (rangeI a b).length = (b - a).toNat := by
  unfold rangeI
  rw [List.length_map, List.length_range]
theorem flat_len {α β : Type} {f : α → List β} {c : Nat} : ∀ {l : List α}, (∀ x ∈ l, (f x).length = c) → (l.flatMap f).length = l.length * c
  | [], _ => (Nat.zero_mul c).symm
  | x :: l, h => by
    rw [List.flatMap_cons, List.length_append, List.length_cons, Nat.add_mul, Nat.one_mul, h x List.mem_cons_self, flat_len fun y hy => h y (List.mem_cons_of_mem _ hy)]
    omega
theorem univ_len (N : Nat) : (univ N).length = N * 6561 := by
  unfold univ
  rw [flat_len (c := 6561), List.length_range]
  intro p _
  rw [flat_len (c := 81), rangeI_len]
  · rfl
  · intro x _
    rw [List.length_map, rangeI_len]
    rfl
theorem few {N : Nat} {S : List Stand} (nd : S.Nodup) (h : ∀ s ∈ S, InU N s) : S.length ≤ N * 6561 := by
  have := nodup_le (u := univ N) nd fun s hs => mem_univ (h s hs)
  rw [univ_len] at this
  exact this
/-- a state that the law meets -/
structure CrOk (R : Rule) (s : Stand) : Prop where
  u : InU R.N s
  le : s.2.1 ≤ s.2.2
theorem cr_ok {R : Rule} (w : R.WF) (hb : ∀ m ∈ R.ms, -20 ≤ m ∧ m ≤ 20) (hN : R.N ≤ 10) {s : Stand} (h : CRl R s) : CrOk R s := by
  have hall : ∀ m ∈ tops R.ms, -20 ≤ m ∧ m ≤ 20 := by
    unfold tops
    split
    · intro m hm
      rw [List.mem_singleton.mp hm]; decide
    · exact hb
  have hat : ∀ i, -20 ≤ mkAt (tops R.ms) i ∧ mkAt (tops R.ms) i ≤ 20 := by
    intro i
    unfold mkAt
    rw [List.getD_eq_getElem?_getD]
    cases e : (tops R.ms)[i]? with
    | none => decide
    | some m => exact hall m (List.mem_of_getElem? e)
  have hm : mostOf R ≤ 33 := by
    have := (hat ((tops R.ms).length - 1)).2
    unfold mostOf
    omega
  induction h with
  | @first x hx =>
    have hx := mem_rangeI.mp hx
    have h1 := hat 0
    have h2 := hat ((tops R.ms).length - 1)
    have h3 : -40 ≤ x ∧ x ≤ 40 := by omega
    exact ⟨⟨w.pos, h3, h3⟩, Int.le_refl _⟩
  | @step s y s' hc hy hmv ih =>
    have hxy : s.2.1 ≤ y ∧ -40 ≤ y ∧ y ≤ 40 := by
      have h1 := ih.u.l
      have h2 := ih.le
      have h3 := ih.u.a
      unfold lates at hy
      split at hy
      · have := mem_rangeI.mp hy
        omega
      · rw [List.mem_singleton.mp hy]; omega
    unfold movedTo at hmv
    obtain ⟨e, he, rfl⟩ := Option.map_eq_some_iff.mp hmv
    have hnx := pr_lt w ih.u.p (case_lt3 R.ms s.2.1 y)
    generalize R.pr s.1 (caseOf R.ms s.2.1 y) = go at he hnx ⊢
    obtain ⟨mv, nx⟩ := go
    have hnx : nx < R.N := hnx
    cases mv with
    | take =>
      have he : y = e := Option.some.inj he
      subst he
      exact ⟨⟨hnx, hxy.2, hxy.2⟩, Int.le_refl _⟩
    | wait =>
      have he : s.2.1 = e := Option.some.inj he
      subst he
      exact ⟨⟨hnx, ih.u.a, hxy.2⟩, hxy.1⟩
    | out => cases he
    | next =>
      have he : least R.ms y = some e := he
      unfold least at he
      have hm := List.mem_filter.mp (List.mem_of_mem_head? he)
      have h1 := hb e hm.1
      have h3 : -40 ≤ e ∧ e ≤ 40 := by omega
      exact ⟨⟨hnx, h3, h3⟩, Int.le_refl _⟩
/-- the states of a closed list are the states that are met -/
structure BF (R : Rule) (S : List Stand) (k : Nat) : Prop where
  kle : k ≤ S.length
  nd : S.Nodup
  sound : ∀ s ∈ S, CRl R s
  first : ∀ x ∈ firsts R, (0, x, x) ∈ S
  done : ∀ j s, j < k → S[j]? = some s → ∀ y ∈ lates (mostOf R) s, ∀ s', movedTo R s y = some s' → s' ∈ S
theorem BF.all {R : Rule} {S : List Stand} (h : BF R S S.length) (s : Stand) : s ∈ S ↔ CRl R s := by
  refine ⟨h.sound s, fun hc => ?_⟩
  induction hc with
  | first hx => exact h.first _ hx
  | @step s y s' _ hy hm ih =>
    obtain ⟨j, hj, e⟩ := List.getElem_of_mem ih
    exact h.done j s hj (by rw [List.getElem?_eq_getElem hj, e]) y hy s' hm
theorem BF.start {R : Rule} : BF R ((firsts R).map fun x => (0, x, x)) 0 := by
  refine ⟨Nat.zero_le _, ?_, fun s hs => ?_, fun x hx => List.mem_map.mpr ⟨x, hx, rfl⟩, fun j s hj => absurd hj (Nat.not_lt_zero _)⟩
  · unfold firsts rangeI
    rw [List.map_map, List.Nodup, List.pairwise_map]
    refine List.Pairwise.imp ?_ List.pairwise_lt_range
    intro a b hab e
    have e := congrArg (fun s : Stand => s.2.1) e
    have e : mkAt (tops R.ms) 0 - R.N - 2 + (a : Int) = mkAt (tops R.ms) 0 - R.N - 2 + (b : Int) := e
    omega
  · obtain ⟨x, hx, rfl⟩ := List.mem_map.mp hs
    exact CRl.first hx
theorem BF.more {R : Rule} {S : List Stand} {k : Nat} (h : BF R S k) {s' : Stand} (hc : CRl R s') (n : s' ∉ S) : BF R (S ++ [s']) k := by
  refine ⟨by rw [List.length_append]; have := h.kle; omega, ?_, fun s hs => ?_, fun x hx => List.mem_append_left _ (h.first x hx), fun j s hj e y hy t ht => ?_⟩
  · refine List.nodup_append.mpr ⟨h.nd, by simp, fun a ha b hb e => ?_⟩
    rw [List.mem_singleton.mp hb] at e
    rw [e] at ha
    exact n ha
  · rcases List.mem_append.mp hs with q | q
    · exact h.sound s q
    · rw [List.mem_singleton.mp q]; exact hc
  · have hl : j < S.length := Nat.lt_of_lt_of_le hj h.kle
    rw [List.getElem?_append_left hl] at e
    exact List.mem_append_left _ (h.done j s hj e y hy t ht)
theorem BF.next {R : Rule} {S : List Stand} {k : Nat} (h : BF R S k) {s : Stand} (e : S[k]? = some s) (hd : ∀ y ∈ lates (mostOf R) s, ∀ s', movedTo R s y = some s' → s' ∈ S) : BF R S (k + 1) := by
  refine ⟨(List.getElem?_eq_some_iff.mp e).1, h.nd, h.sound, h.first, fun j t hj et => ?_⟩
  rcases Nat.lt_or_eq_of_le (Nat.le_of_lt_succ hj) with q | q
  · exact h.done j t q et
  · rw [q, e] at et
    cases et
    exact hd
end K24
namespace K24
open PySem PySem.Spec PyProof.Rows L2
/-! ### data of tuples and flat things that stand -/
mutual
inductive Tp (H : Hp) : V → PyData → Prop
  | non : Tp H .non .none
  | bl (b : Bool) : Tp H (.bl b) (.bool b)
  | int (i : Int) : Tp H (.int i) (.int i)
  | str (x : Str) : Tp H (.str x) (.str x)
  | tup {a : Addr} {xs : List V} {ds : List PyData} : H a = some (.tup xs) → TpL H xs ds → Tp H (.ref a) (.tuple ds)
inductive TpL (H : Hp) : List V → List PyData → Prop
  | nil : TpL H [] []
  | cons {v : V} {vs : List V} {d : PyData} {ds : List PyData} : Tp H v d → TpL H vs ds → TpL H (v :: vs) (d :: ds)
end
/-- the tuples stay -/
def KT (H H' : Hp) : Prop := ∀ a xs, H a = some (.tup xs) → H' a = some (.tup xs)
theorem KT.refl (H : Hp) : KT H H := fun _ _ h => h
theorem KT.trans {H H1 H2 : Hp} (a : KT H H1) (b : KT H1 H2) : KT H H2 := fun c o h => b c o (a c o h)
theorem KT.of {H H' : Hp} (s : Same H H') : KT H H' := fun a xs h => s a _ h
theorem KT.lst {H : Hp} {p : Addr} {xs : List V} {o : HO} (h : H p = some (.lst xs)) : KT H (upd H p o) := fun a ys e => by
  rw [upd_ne (ne_of e h (by intro z; cases z))]; exact e
theorem KT.dct {H : Hp} {p : Addr} {xs : List (Key × V)} {o : HO} (h : H p = some (.dK xs)) : KT H (upd H p o) := fun a ys e => by
  rw [upd_ne (ne_of e h (by intro z; cases z))]; exact e
theorem KT.dctT {H : Hp} {p : Addr} {xs : List (List Key × V)} {o : HO} (h : H p = some (.dT xs)) : KT H (upd H p o) := fun a ys e => by
  rw [upd_ne (ne_of e h (by intro z; cases z))]; exact e
theorem same_upd {H : Hp} {p : Addr} {o : HO} (h : H p = none) : Same H (upd H p o) := fun b x e => by
  rw [upd_ne (ne_of_none e h)]; exact e
/-- what was not there before may change -/
theorem same_mut {H H' : Hp} {p : Addr} {o : HO} (s : Same H H') (h : H p = none) : Same H (upd H' p o) := fun b x e => by
  rw [upd_ne (ne_of_none e h)]; exact s b x e
mutual
theorem Tp.keep {H H' : Hp} (k : KT H H') : ∀ {d : PyData} {v : V}, Tp H v d → Tp H' v d
  | .none, _, h => by cases h; exact .non
  | .bool _, _, h => by cases h; exact .bl _
  | .int _, _, h => by cases h; exact .int _
  | .str _, _, h => by cases h; exact .str _
  | .list _, _, h => by cases h
  | .dict _, _, h => by cases h
  | .tuple ds, _, h => by
    cases h with
    | tup h1 h2 => exact .tup (k _ _ h1) (TpL.keep k h2)
theorem TpL.keep {H H' : Hp} (k : KT H H') : ∀ {ds : List PyData} {vs : List V}, TpL H vs ds → TpL H' vs ds
  | [], _, h => by cases h; exact .nil
  | d :: ds, _, h => by
    cases h with
    | cons h1 h2 => exact .cons (Tp.keep k h1) (TpL.keep k h2)
end
mutual
theorem Tp.dp {K : PySem.W.Frag} {H : Hp} : ∀ {d : PyData} {v : V}, Tp H v d → Dp K H v d
  | .none, _, h => by cases h; exact .non
  | .bool _, _, h => by cases h; exact .bl _
  | .int _, _, h => by cases h; exact .int _
  | .str _, _, h => by cases h; exact .str _
  | .list _, _, h => by cases h
  | .dict _, _, h => by cases h
  | .tuple ds, _, h => by
    cases h with
    | tup h1 h2 => exact .tup (SqT.of h1) (TpL.dp h2)
theorem TpL.dp {K : PySem.W.Frag} {H : Hp} : ∀ {ds : List PyData} {vs : List V}, TpL H vs ds → DpAll K H vs ds
  | [], _, h => by cases h; exact .nil
  | d :: ds, _, h => by
    cases h with
    | cons h1 h2 => exact .cons (Tp.dp h1) (TpL.dp h2)
end
section
variable {H : Hp} {v : V} {vs ws : List V} {ds es : List PyData} {d : PyData}
theorem Tp.int_inv {i : Int} (h : Tp H v (.int i)) : v = .int i := by cases h; rfl
theorem Tp.none_inv (h : Tp H v .none) : v = .non := by cases h; rfl
theorem Tp.str_inv {x : Str} (h : Tp H v (.str x)) : v = .str x := by cases h; rfl
theorem Tp.tup_inv (h : Tp H v (.tuple ds)) : ∃ a xs, v = .ref a ∧ H a = some (.tup xs) ∧ TpL H xs ds := by
  cases h with
  | tup h1 h2 => exact ⟨_, _, rfl, h1, h2⟩
theorem TpL.length (h : TpL H vs ds) : vs.length = ds.length := by
  induction vs generalizing ds with
  | nil => cases h; rfl
  | cons v vs ih =>
    cases h with
    | cons h1 h2 => rw [List.length_cons, List.length_cons, ih h2]
theorem TpL.get : ∀ {ds : List PyData} {vs : List V} {i : Nat} {d : PyData}, TpL H vs ds → ds[i]? = some d → ∃ v, vs[i]? = some v ∧ Tp H v d
  | [], _, _, _, h, e => by simp at e
  | d :: ds, _, 0, _, h, e => by
    cases h with
    | cons h1 h2 =>
      have e : d = _ := Option.some.inj e
      subst e
      exact ⟨_, rfl, h1⟩
  | d :: ds, _, i + 1, _, h, e => by
    cases h with
    | cons h1 h2 => exact TpL.get (i := i) h2 e
theorem TpL.get' {i : Nat} {v : V} (h : TpL H vs ds) (e : vs[i]? = some v) : ∃ d, ds[i]? = some d ∧ Tp H v d := by
  have hl := h.length
  have hi := (List.getElem?_eq_some_iff.mp e).1
  obtain ⟨w, h1, h2⟩ := h.get (i := i) (d := ds[i]'(by omega)) (List.getElem?_eq_getElem (by omega))
  rw [e] at h1; cases h1
  exact ⟨_, List.getElem?_eq_getElem (by omega), h2⟩
theorem TpL.app : ∀ {ds es : List PyData} {vs ws : List V}, TpL H vs ds → TpL H ws es → TpL H (vs ++ ws) (ds ++ es)
  | [], _, _, _, h, h' => by cases h; exact h'
  | d :: ds, _, _, _, h, h' => by
    cases h with
    | cons h1 h2 => exact .cons h1 (TpL.app h2 h')
theorem TpL.snoc (h : TpL H vs ds) (h' : Tp H v d) : TpL H (vs ++ [v]) (ds ++ [d]) := h.app (.cons h' .nil)
theorem TpL.one (h : Tp H v d) : TpL H [v] [d] := .cons h .nil
theorem TpL.two {v' : V} {d' : PyData} (h : Tp H v d) (h' : Tp H v' d') : TpL H [v, v'] [d, d'] := .cons h (.cons h' .nil)
theorem TpL.three {v' v'' : V} {d' d'' : PyData} (h : Tp H v d) (h' : Tp H v' d') (h'' : Tp H v'' d'') : TpL H [v, v', v''] [d, d', d''] := .cons h (.cons h' (.cons h'' .nil))
theorem TpL.drop : ∀ {ds : List PyData} {vs : List V} (n : Nat), TpL H vs ds → TpL H (vs.drop n) (ds.drop n)
  | _, _, 0, h => h
  | [], _, n + 1, h => by cases h; exact .nil
  | d :: ds, _, n + 1, h => by
    cases h with
    | cons h1 h2 => exact TpL.drop n h2
theorem TpL.take : ∀ {ds : List PyData} {vs : List V} (n : Nat), TpL H vs ds → TpL H (vs.take n) (ds.take n)
  | _, _, 0, _ => .nil
  | [], _, n + 1, h => by cases h; exact .nil
  | d :: ds, _, n + 1, h => by
    cases h with
    | cons h1 h2 => exact .cons h1 (TpL.take n h2)
theorem TpL.dropLast : ∀ {ds : List PyData} {vs : List V}, TpL H vs ds → TpL H vs.dropLast ds.dropLast
  | [], _, h => by cases h; exact .nil
  | [d], _, h => by
    cases h with
    | cons h1 h2 => cases h2; exact .nil
  | d :: e :: ds, _, h => by
    cases h with
    | cons h1 h2 =>
      cases h2 with
      | cons h3 h4 => exact .cons h1 (TpL.dropLast (.cons h3 h4))
theorem TpL.map {α : Type} {f : α → V} {g : α → PyData} : ∀ {l : List α}, (∀ x ∈ l, Tp H (f x) (g x)) → TpL H (l.map f) (l.map g)
  | [], _ => .nil
  | x :: l, h => .cons (h x List.mem_cons_self) (TpL.map fun y hy => h y (List.mem_cons_of_mem _ hy))
end

/-! ### repr of data -/
section
variable {X : Cx}
theorem call_reprD (hg : X.A.guards = some []) (hu : X.A.units + 100 < cLine) : CallR X (.builtin "repr") (fun xs H Q => ∃ a d, xs = [.ref a] ∧ Dp X.K H (.ref a) d ∧ d.showable = true ∧ d.hasDict = false ∧ d.depth ≤ 90 ∧ d.shown.length ≤ sizeLine ∧ Q (.str d.shown) H) := by
  intro pins s σ H xs us Q I r h
  obtain ⟨a, d, rfl, hd, h1, h2, h3, h4, q⟩ := h
  obtain ⟨u, rfl, ru⟩ := vals1 r
  obtain ⟨as, rd⟩ := Dp.reads I d _ u hd ru
  cases ru
  exact repr_of_reads' rd h1 (fun e => by rw [h2] at e; cases e) hg (by omega) (fun _ _ e => e) (fun h' t tk hk => ⟨.str d.shown, H, I.kept hk, ⟨t, rfl⟩, q⟩) h4

/-! ### sorted of tuples that are told -/
def Each {α β : Type} (R : α → β → Prop) : List α → List β → Prop := PySem.W.EachIs R
theorem refs_of {H : Hp} {α : Type} {R : Addr → α → Prop} : ∀ {bs : List Addr} {ks : List α} {us : List Value}, Vals (bs.map V.ref) us → PySem.W.EachIs R bs ks → PySem.W.EachIs (fun u k => ∃ b, u = Value.ref b ∧ R b k) us ks
  | [], _, _, r, h => by cases h; cases r; exact .nil
  | b :: bs, _, _, r, h => by
    cases h with
    | cons h1 h2 =>
      cases r with
      | cons r1 r2 =>
        cases r1
        exact .cons ⟨b, rfl, h1⟩ (refs_of (H := H) r2 h2)
theorem refs_to {α : Type} {R : Addr → α → Prop} : ∀ {us : List Value} {ks : List α}, PySem.W.EachIs (fun u k => ∃ b, u = Value.ref b ∧ R b k) us ks → ∃ bs : List Addr, Vals (bs.map V.ref) us ∧ PySem.W.EachIs R bs ks
  | _, _, .nil => ⟨[], .nil, .nil⟩
  | _, _, .cons h1 t => by
    obtain ⟨b, rfl, hb⟩ := h1
    obtain ⟨bs, r, e⟩ := refs_to t
    exact ⟨b :: bs, .cons rfl r, .cons hb e⟩
theorem each_mono {α β : Type} {R S : α → β → Prop} : ∀ {l : List α} {m : List β}, PySem.W.EachIs R l m → (∀ a b, R a b → S a b) → PySem.W.EachIs S l m
  | _, _, .nil, _ => .nil
  | _, _, .cons h t, f => .cons (f _ _ h) (each_mono t f)
/-- sorted(xs): the items are refs to tuples that read as enc k -/
def rSortedE (K : PySem.W.Frag) {α : Type} (enc : α → PyData) : List V → Hp → VK → Prop := fun vs H Q => ∃ (a : Addr) (bs : List Addr) (ks : List α), vs = [V.ref a] ∧ SqL K H a (bs.map V.ref) ∧
  PySem.W.EachIs (fun b k => ∃ vs, H b = some (.tup vs) ∧ Tp H (.ref b) (enc k)) bs ks ∧ (∀ b b' : α, PySem.W.alike (enc b) (enc b') = true) ∧ (∀ b : α, ∃ x r, enc b = .tuple (x :: r)) ∧ (∀ b : α, (enc b).depth ≤ 40) ∧
  ∀ (p : Addr) (bs' : List Addr), H p = none → PySem.W.EachIs (fun b k => ∃ vs, H b = some (.tup vs) ∧ Tp H (.ref b) (enc k)) bs' (ks.mergeSort (PySem.W.dataLe false enc)) → Q (.ref p) (upd H p (.lst (bs'.map V.ref)))
theorem cr_sortedE {α : Type} {enc : α → PyData} (hu : X.A.units + 64 < cLine) : CallR X (.builtin "sorted") (rSortedE X.K enc) := by
  intro pins s σ H vs us Q I r h
  obtain ⟨a, bs, ks, rfl, hs, he, h1, h2, h3, q⟩ := h
  obtain ⟨its, rv, hl, hz⟩ := I.list hs
  rw [Vals.ref1 r]
  have e1 := refs_of (H := H) rv he
  have e2 : PySem.W.EachIs (fun v b => ∃ as, Reads s.heap v (enc b) as) its ks := each_mono e1 fun u k hq => by
    obtain ⟨b, rfl, vs, hb, ht⟩ := hq
    exact Dp.reads I (enc k) (.ref b) (.ref b) ht.dp rfl
  have hlen : ks.length = bs.length := (he.length).symm
  rw [List.length_map] at hz
  refine PySem.W.sorted_data hl.isList e1 e2 (PySem.W.AllAlike.of h1) (PySem.W.Sortable.tuples h2) (by rw [hlen]; exact hz) (fun b _ => by have := h3 b; omega) fun out ho hq => ?_
  obtain ⟨bs', r', e'⟩ := refs_to hq
  obtain ⟨ep, hat⟩ := PyProof.Rows.sortedAll_at s.heap its out.toArray
  have hl' : (bs'.map V.ref).length ≤ sizeLine := by
    rw [r'.length, ho, hlen]; exact hz
  exact ⟨.ref _, upd H (s.heap.objs.size + 1) (.lst (bs'.map V.ref)), I.laid (t' := s.toks) (fun _ _ => PyProof.Rows.sortedAll_old) (Nat.le_succ _) ⟨hl', out, ep, r', hat⟩, rfl, q _ bs' (I.hok.fresh (Nat.le_succ _)) e'⟩

/-! ### dict(pairs), the keys tuples, each once -/
theorem stored_all {κ : Type} [DecidableEq κ] : ∀ (ps xs : List (κ × Addr × Value)), ((xs ++ ps).map (·.1)).Nodup → storedAllH xs ps = xs ++ ps
  | [], xs, _ => by rw [List.append_nil]; rfl
  | p :: ps, xs, h => by
    have hn : atKey xs p.1 = none := by
      rw [List.map_append, List.nodup_append] at h
      cases e : atKey xs p.1 with
      | none => rfl
      | some z =>
        exfalso
        have : ∃ q ∈ xs, q.1 = p.1 := by
          unfold atKey at e
          obtain ⟨q, hq, _⟩ := Option.map_eq_some_iff.mp e
          exact ⟨q, List.mem_of_find?_eq_some hq, of_decide_eq_true (by simpa using List.find?_some hq)⟩
        obtain ⟨q, hq, e2⟩ := this
        exact h.2.2 _ (List.mem_map.mpr ⟨q, hq, rfl⟩) _ (List.mem_map.mpr ⟨p, List.mem_cons_self, rfl⟩) e2
    show storedAllH (storedH xs p.1 p.2.1 p.2.2) ps = xs ++ p :: ps
    rw [storedH_new hn, stored_all ps _ (by rw [List.append_assoc]; exact h), List.append_assoc]
    rfl
end
end K24
namespace K24
open PySem PySem.Spec PyProof.Rows L2
section
variable {X : Cx}
/-- the entries of a list of pairs (key, value), the key a tuple -/
def IsPairs (H : Hp) (ts : List Addr) (kvs : List (List Key × V)) : Prop := Paired (fun T kv => ∃ b, H T = some (.tup [.ref b, kv.2]) ∧ H b = some (.tup (kv.1.map kV))) ts kvs
theorem pairs_to {pins : List (Addr × Obj)} {σ : L2.St} {H : Hp} {s : Shared} (I : Inv X pins σ H s) : ∀ {ts : List Addr} {kvs : List (List Key × V)}, IsPairs H ts kvs →
    ∃ ps : List (List Key × Addr × Value), L2.KT H kvs ps ∧ ps.length = ts.length ∧ ∀ (j : Nat) (T : Addr), ts[j]? = some T → ∃ q, ps[j]? = some q ∧ s.heap.IsTuple T #[.ref q.2.1, q.2.2]
  | _, _, .nil => ⟨[], .nil, rfl, fun j T e => by simp at e⟩
  | _, _, .cons (a := T) (b := kv) h t => by
    obtain ⟨ps, r, hl, hp⟩ := pairs_to I t
    obtain ⟨b, h1, h2⟩ := h
    obtain ⟨_, its, rv, ht⟩ := (show ObjOk X.prog X.w H s.heap T (.tup [.ref b, kv.2]) from I.hok T _ h1)
    obtain ⟨u1, u2, rfl, r1, r2⟩ := vals2 rv
    cases r1
    refine ⟨(kv.1, b, u2) :: ps, .cons ⟨rfl, h2, r2⟩ r, by rw [List.length_cons, List.length_cons, hl], fun j T' e => ?_⟩
    cases j with
    | zero =>
      have e' : T = T' := Option.some.inj e
      subst e'
      exact ⟨_, rfl, ht⟩
    | succ j =>
      obtain ⟨q, e1, e2⟩ := hp j T' (by simpa using e)
      exact ⟨q, by simpa using e1, e2⟩
theorem kt_keys {H : Hp} : ∀ {kvs : List (List Key × V)} {ps : List (List Key × Addr × Value)}, L2.KT H kvs ps → ps.map (·.1) = kvs.map (·.1)
  | _, _, .nil => rfl
  | _, _, .cons h t => by rw [List.map_cons, List.map_cons, kt_keys t, h.1]
theorem kt_isKey {P : Program} {w : World} {H : Hp} {h : Heap} (ok : HOk P w H h) : ∀ {kvs : List (List Key × V)} {ps : List (List Key × Addr × Value)}, L2.KT H kvs ps → ∀ x ∈ ps, (tupleKind (mixKind P w)).is h x.1 x.2.1
  | _, _, .nil, x, hx => nomatch hx
  | _, _, .cons h1 t, x, hx => by
    rcases List.mem_cons.mp hx with e | hx
    · subst e
      exact key_of ok (by rw [← h1.1]; exact h1.2.1)
    · exact kt_isKey ok t x hx
theorem kt_upd {H H' : Hp} : ∀ {kvs : List (List Key × V)} {ps : List (List Key × Addr × Value)}, L2.KT H kvs ps → Same H H' → L2.KT H' kvs ps
  | _, _, .nil, _ => .nil
  | _, _, .cons h t, s => .cons ⟨h.1, s _ _ h.2.1, h.2.2⟩ (kt_upd t s)
/-- dict(xs), xs a list of pairs, each key once -/
def rDictT (K : PySem.W.Frag) : List V → Hp → VK → Prop := fun xs H Q => ∃ (a : Addr) (ts : List Addr) (kvs : List (List Key × V)), xs = [.ref a] ∧ SqL K H a (ts.map V.ref) ∧ IsPairs H ts kvs ∧ (kvs.map (·.1)).Nodup ∧
  ∀ p, H p = none → Q (.ref p) (upd H p (.dT kvs))
theorem call_dictT (hc : X.calm = true) (hu : X.A.units + 64 < cLine) : CallR X (.type "dict") (rDictT X.K) := by
  intro pins s σ H xs us Q I r h
  obtain ⟨a, ts, kvs, rfl, hs, hp, nd, q⟩ := h
  rw [Vals.ref1 r]
  obtain ⟨its, rv, ⟨o, n, ho, hcl, hd, hdat⟩, hz⟩ := I.list hs
  have ei := refs_at rv
  subst ei
  rw [List.length_map] at hz
  obtain ⟨ps, kt, hl, hat⟩ := pairs_to I hp
  have hkl : kvs.length = ps.length := kt.length
  have hget : ∀ j T, ts[j]? = some T → ts.getD j 0 = T := fun j T e => by rw [List.getD_eq_getElem?_getD, e]; rfl
  have P := PairArg.list (prog := X.prog) (w := X.w) a (ts.map Value.ref).toArray (fun j => ts.getD j 0) (ps.map fun x => (Value.ref x.2.1, x.2.2))
  have ok : PlainSeq "list" s.heap a (ts.map Value.ref).toArray ∧ PairItems s.heap (ts.map Value.ref).toArray (fun j => ts.getD j 0) (ps.map fun x => (Value.ref x.2.1, x.2.2)) := by
    refine ⟨⟨o, n, ho, hcl, hd, hdat⟩, by simp [hl], fun j k v hj => ?_⟩
    rw [List.getElem?_map] at hj
    obtain ⟨x, e1, e2⟩ := Option.map_eq_some_iff.mp hj
    cases e2
    have hlt : j < ts.length := by rw [← hl]; exact (List.getElem?_eq_some_iff.mp e1).1
    have eT := List.getElem?_eq_getElem hlt
    obtain ⟨q', e3, e4⟩ := hat j _ eT
    rw [e1] at e3; cases e3
    refine ⟨?_, .inl ?_⟩
    · show ((ts.map Value.ref).toArray)[j]? = some (Value.ref (ts.getD j 0))
      rw [List.getElem?_toArray, List.getElem?_map, eT, hget j _ eT]; rfl
    · show s.heap.IsTuple (ts.getD j 0) #[.ref x.2.1, x.2.2]
      rw [hget j _ eT]; exact e4
  have hnd : (ps.map (·.1)).Nodup := by rw [kt_keys kt]; exact nd
  refine PySem.call_dict_pairsH (knd := tupleKind (mixKind X.prog X.w)) (ps := ps) P (I.ok.hd hc) (by show X.A.units + 1 + 1 < cLine; omega) ok ⟨by rw [List.length_map], fun i key v e => ?_⟩ (fun h' hk x hx => ?_) (by rw [List.length_map, hl]; exact hz) fun h' tk hd' hk => ?_
  · have e : (ps.map fun x => (Value.ref x.2.1, x.2.2))[i]? = some (key, v) := e
    rw [List.getElem?_map] at e
    obtain ⟨x, e1, e2⟩ := Option.map_eq_some_iff.mp e
    cases e2
    exact ⟨x.1, x.2.1, e1, rfl⟩
  · have hk0 := kt_isKey I.hok kt x hx
    exact tupleKind_stays.stays (fun b o vs n e _ => hk b o (Nat.ne_of_lt (Heap.lt_size e)) (fun z => nomatch z) e) hk0
  · rw [stored_all ps [] (by simpa using hnd), List.nil_append] at hd'
    have hm : (s.heap.objs.size == sysModules) = false := beq_eq_false_iff_ne.mpr (Nat.ne_of_gt I.big)
    have hf := I.hok.fresh (Nat.le_refl s.heap.objs.size)
    obtain ⟨o', es, ep, g1, g2, g3, g4, _, g6⟩ := hd'
    refine ⟨.ref s.heap.objs.size, upd H s.heap.objs.size (.dT kvs), I.laid (t' := tk) (fun b o e => hk b o (fun z => nomatch z) e) (Nat.le_refl _) ?_, rfl, q _ hf⟩
    exact ⟨by rw [hkl, hl]; exact hz, hm, ps, kt_upd kt (same_upd hf), o', es, ep, g1, g2, g3, g4, g6⟩
end

/-! ### the law's own def: what is around it is told -/
structure LawFn (P : Program) (w : World) (K : PySem.W.Frag) (mg : Str → Option Value) (base : Heap) (k : Nat) (f : Addr) (fd : FuncData) (x : Str) (sp : Sp) : Prop where
  run : ∀ (s : Shared) (H : Hp) (u : Value) (a : Addr) (Q : VK), Env0 P w K mg base callerA [] s H → BindsTo s fd ⟨[u], []⟩ [(x, u)] → RelV (.ref a) u → sp [.ref a] H Q E0 →
    codeAny (model P w) callerA (.call (.ref f) ⟨[u], []⟩) (CR CX0 [] P w H s Q E0) s
theorem law_fn {P : Program} {w : World} {K : PySem.W.Frag} {mg : Str → Option Value} {base : Heap} {k : Nat} {x qual p0 : Str} {st : Stmt} {f : Addr} {fd : FuncData} {N : List Str} {sp : Sp} (F : Fun K x qual st f fd) (S : FnScope N [p0] (defScope st)) (hr : Room (k + 1) callerA)
    (hbody : ∀ (cdv : Value) (s : Shared) (H : Hp) (a : Addr) (Q : VK), Room k (callerA.deeper (envOfC qual (defScope st) s.heap.objs.size f cdv)) → (callerA.deeper (envOfC qual (defScope st) s.heap.objs.size f cdv)).guards = some [] → sp [.ref a] H Q E0 →
      ∃ t, PSs (cxOf CX0 P w K mg base N qual (defScope st) f cdv callerA [] s H E0).nox (defBody st) t ∧ t { nx := fun _ H' => Q .non H', rt := Q } (start N [.ref a]) H) : LawFn P w K mg base k f fd p0 sp := by
  obtain ⟨oc, od, kV, doc, pm, an, cdv, ct, osl, rfl, lk, hcd⟩ := F.ex
  refine ⟨fun s H u a Q e0 hb ru hsp => ?_⟩
  have KX : K.In s.heap := e0.mod.kin.keeps fun b o e => (e0.bs b o e).1
  have lim : s.heap.NoLimit := e0.mod.nolimit.keeps fun b o e => (e0.bs b o e).1
  refine codeAny_call_function hr.depth (KX _ _ lk) rfl S.co S.gen rfl (PySem.W.codeRec_of KX hcd) (hb _ _ _ _ ?_)
  refine wpAny_newFunctionEnv_cells S.kind (fun y hy => ?_) fun env he s1 x1 => ?_
  · obtain rfl := List.mem_singleton.mp hy
    exact (S.par p0 List.mem_cons_self).imp id fun q => ⟨q, PySem.W.cellsFrom_some _ _ _ (.inl q)⟩
  subst he
  refine ⟨lim.keeps x1.toInCall.keep, codeAny_func ?_⟩
  obtain ⟨t, ht, hq⟩ := hbody cdv s H a Q (hr.deeper _) rfl hsp
  have I := inv_start (CX := CX0) (E := E0) S hr.hd e0 (us := [u]) (vs := [.ref a]) rfl (.cons ru .nil) x1
  refine wpAny_mono (ht.nox.run [] s1 (start N [.ref a]) H _ I hq) (fun fl s' hs => ?_) fun e s' hs => hs
  cases fl with
  | ret v =>
    obtain ⟨v', σ', H', J, rv, q⟩ := hs
    exact ⟨v', H', J.os, J.bare, J.base, J.hok, rv, q⟩
  | next =>
    obtain ⟨σ', H', J, q⟩ := hs
    exact ⟨V.non, H', J.os, J.bare, J.base, J.hok, (show RelV V.non Value.none from rfl), q⟩
  | brk => obtain ⟨_, _, _, q⟩ := hs; exact q.elim
  | cont => obtain ⟨_, _, _, q⟩ := hs; exact q.elim
end K24
namespace K24
open PySem PySem.Spec PyProof.Rows L2
/-! ### the text -/
def topS (i : Nat) : Stmt := PySem.Challenge.pw_endclimbs_k24_whole_steady_spots_by_rows.main.body.getD i (.Pass ⟨0, 0, 0, 0⟩)
abbrev s_is_enough : Stmt := topS 3
abbrev N_is_enough : List Str := ["room", "wanted"]
theorem sc_is_enough : FnScope N_is_enough ["room", "wanted"] (defScope s_is_enough) := ⟨rfl, rfl, rfl, by decide +kernel, rfl, by decide +kernel, by decide +kernel⟩
abbrev s_mark_room : Stmt := topS 4
abbrev N_mark_room : List Str := ["marks", "gap"]
theorem sc_mark_room : FnScope N_mark_room ["marks", "gap"] (defScope s_mark_room) := ⟨rfl, rfl, rfl, by decide +kernel, rfl, by decide +kernel, by decide +kernel⟩
abbrev s_first_room : Stmt := topS 5
abbrev N_first_room : List Str := ["marks", "gap"]
theorem sc_first_room : FnScope N_first_room ["marks", "gap"] (defScope s_first_room) := ⟨rfl, rfl, rfl, by decide +kernel, rfl, by decide +kernel, by decide +kernel⟩
abbrev s_first_spots : Stmt := topS 6
abbrev N_first_spots : List Str := ["marks", "gap"]
theorem sc_first_spots : FnScope N_first_spots ["marks"] (defScope s_first_spots) := ⟨rfl, rfl, rfl, by decide +kernel, rfl, by decide +kernel, by decide +kernel⟩
abbrev s_coming : Stmt := topS 7
abbrev N_coming : List Str := ["marks", "spot", "room", "phase", "gap", "floor", "is_outer", "found", "i"]
theorem sc_coming : FnScope N_coming ["marks", "spot", "room"] (defScope s_coming) := ⟨rfl, rfl, rfl, by decide +kernel, rfl, by decide +kernel, by decide +kernel⟩
abbrev s_far_goals : Stmt := topS 8
abbrev N_far_goals : List Str := ["marks", "gap", "found", "later", "room"]
theorem sc_far_goals : FnScope N_far_goals ["marks", "gap"] (defScope s_far_goals) := ⟨rfl, rfl, rfl, by decide +kernel, rfl, by decide +kernel, by decide +kernel⟩
abbrev s_goals : Stmt := topS 9
abbrev N_goals : List Str := ["marks", "gap", "room", "i", "move", "later"]
theorem sc_goals : FnScope N_goals ["marks", "gap", "room", "i", "move"] (defScope s_goals) := ⟨rfl, rfl, rfl, by decide +kernel, rfl, by decide +kernel, by decide +kernel⟩
abbrev s_steps_by : Stmt := topS 10
abbrev N_steps_by : List Str := ["rule", "spot", "room", "i", "phase", "gap", "floor", "move", "later", "late_floor", "goal", "late"]
theorem sc_steps_by : FnScope N_steps_by ["rule", "spot", "room", "i"] (defScope s_steps_by) := ⟨rfl, rfl, rfl, by decide +kernel, rfl, by decide +kernel, by decide +kernel⟩
abbrev s_any_steps : Stmt := topS 11
abbrev N_any_steps : List Str := ["rule", "spot", "room", "found", "i"]
theorem sc_any_steps : FnScope N_any_steps ["rule", "spot", "room"] (defScope s_any_steps) := ⟨rfl, rfl, rfl, by decide +kernel, rfl, by decide +kernel, by decide +kernel⟩
abbrev s_move_behind_waits : Stmt := topS 12
abbrev N_move_behind_waits : List Str := ["rule", "phase", "i", "turn", "move", "later"]
theorem sc_move_behind_waits : FnScope N_move_behind_waits ["rule", "phase", "i"] (defScope s_move_behind_waits) := ⟨rfl, rfl, rfl, by decide +kernel, rfl, by decide +kernel, by decide +kernel⟩
abbrev s_steady_cases : Stmt := topS 13
abbrev N_steady_cases : List Str := ["marks", "spot", "room", "i"]
theorem sc_steady_cases : FnScope N_steady_cases ["marks", "spot", "room"] (defScope s_steady_cases) := ⟨rfl, rfl, rfl, by decide +kernel, rfl, by decide +kernel, by decide +kernel⟩
abbrev s_steady_steps : Stmt := topS 14
abbrev N_steady_steps : List Str := ["rule", "spot", "room", "found", "i", "pair", "goal", "late"]
theorem sc_steady_steps : FnScope N_steady_steps ["rule", "spot", "room"] (defScope s_steady_steps) := ⟨rfl, rfl, rfl, by decide +kernel, rfl, by decide +kernel, by decide +kernel⟩
abbrev s_reached : Stmt := topS 15
abbrev N_reached : List Str := ["rule", "starts", "steps", "found", "left", "spot", "room", "late", "late_room"]
theorem sc_reached : FnScope N_reached ["rule", "starts", "steps"] (defScope s_reached) := ⟨rfl, rfl, rfl, by decide +kernel, rfl, by decide +kernel, by decide +kernel⟩
abbrev s_listed : Stmt := topS 16
abbrev N_listed : List Str := ["found", "spot"]
theorem sc_listed : FnScope N_listed ["found"] (defScope s_listed) := ⟨rfl, rfl, rfl, by decide +kernel, rfl, by decide +kernel, by decide +kernel⟩
abbrev s_spots_of : Stmt := topS 17
abbrev N_spots_of : List Str := ["rule"]
theorem sc_spots_of : FnScope N_spots_of ["rule"] (defScope s_spots_of) := ⟨rfl, rfl, rfl, by decide +kernel, rfl, by decide +kernel, by decide +kernel⟩
abbrev s_steady_spots : Stmt := topS 18
abbrev N_steady_spots : List Str := ["rule"]
theorem sc_steady_spots : FnScope N_steady_spots ["rule"] (defScope s_steady_spots) := ⟨rfl, rfl, rfl, by decide +kernel, rfl, by decide +kernel, by decide +kernel⟩
abbrev s_law_feed : Stmt := topS 20
abbrev N_law_feed : List Str := ["_law_script", "_law_cell"]
theorem sc_law_feed : FnScope N_law_feed ["_law_script"] (defScope s_law_feed) := ⟨rfl, rfl, rfl, by decide +kernel, rfl, by decide +kernel, by decide +kernel⟩
abbrev s_law_draw : Stmt := topS 21
abbrev N_law_draw : List Str := ["_law_feed_here", "_law_size", "_law_digit", "_law_cells", "_law_spot", "_law_cell", "_law_mixed"]
theorem sc_law_draw : FnScope N_law_draw ["_law_feed_here", "_law_size"] (defScope s_law_draw) := ⟨rfl, rfl, rfl, by decide +kernel, rfl, by decide +kernel, by decide +kernel⟩
abbrev s_law_pick : Stmt := topS 22
abbrev N_law_pick : List Str := ["_law_feed_here", "_law_some"]
theorem sc_law_pick : FnScope N_law_pick ["_law_feed_here", "_law_some"] (defScope s_law_pick) := ⟨rfl, rfl, rfl, by decide +kernel, rfl, by decide +kernel, by decide +kernel⟩
abbrev s_law_tops : Stmt := topS 23
abbrev N_law_tops : List Str := ["_law_feed_here", "_law_most", "_law_wide", "_law_found", "_law_at", "_law_lap"]
theorem sc_law_tops : FnScope N_law_tops ["_law_feed_here", "_law_most", "_law_wide"] (defScope s_law_tops) := ⟨rfl, rfl, rfl, by decide +kernel, rfl, by decide +kernel, by decide +kernel⟩
abbrev s_law_plan : Stmt := topS 24
abbrev N_law_plan : List Str := ["_law_feed_here", "_law_most", "_law_wide", "_law_size", "_law_many", "_law_lean", "_law_moves", "_law_found", "_law_lap", "_law_k"]
theorem sc_law_plan : FnScope N_law_plan ["_law_feed_here", "_law_most", "_law_wide", "_law_size"] (defScope s_law_plan) := ⟨rfl, rfl, rfl, by decide +kernel, rfl, by decide +kernel, by decide +kernel⟩
abbrev s_law_upper : Stmt := topS 25
abbrev N_law_upper : List Str := ["_law_tops_here", "_law_at", "_law_found", "_law_top"]
theorem sc_law_upper : FnScope N_law_upper ["_law_tops_here", "_law_at"] (defScope s_law_upper) := ⟨rfl, rfl, rfl, by decide +kernel, rfl, by decide +kernel, by decide +kernel⟩
abbrev s_law_case : Stmt := topS 26
abbrev N_law_case : List Str := ["_law_tops_here", "_law_at", "_law_late", "_law_upper_here"]
theorem sc_law_case : FnScope N_law_case ["_law_tops_here", "_law_at", "_law_late"] (defScope s_law_case) := ⟨rfl, rfl, rfl, by decide +kernel, rfl, by decide +kernel, by decide +kernel⟩
abbrev s_law_end : Stmt := topS 27
abbrev N_law_end : List Str := ["_law_tops_here", "_law_move", "_law_at", "_law_late", "_law_found", "_law_top"]
theorem sc_law_end : FnScope N_law_end ["_law_tops_here", "_law_move", "_law_at", "_law_late"] (defScope s_law_end) := ⟨rfl, rfl, rfl, by decide +kernel, rfl, by decide +kernel, by decide +kernel⟩
abbrev s_law_moved : Stmt := topS 28
abbrev N_law_moved : List Str := ["_law_plan_here", "_law_stand", "_law_late", "_law_phase", "_law_at", "_law_last", "_law_case_here", "_law_move", "_law_after", "_law_end_now"]
theorem sc_law_moved : FnScope N_law_moved ["_law_plan_here", "_law_stand", "_law_late"] (defScope s_law_moved) := ⟨rfl, rfl, rfl, by decide +kernel, rfl, by decide +kernel, by decide +kernel⟩
abbrev s_law_reached : Stmt := topS 29
abbrev N_law_reached : List Str := ["_law_plan_here", "_law_firsts", "_law_most", "_law_is_steady", "_law_seen", "_law_queue", "_law_k", "_law_stand", "_law_lates", "_law_late", "_law_after", "_law_at"]
theorem sc_law_reached : FnScope N_law_reached ["_law_plan_here", "_law_firsts", "_law_most", "_law_is_steady"] (defScope s_law_reached) := ⟨rfl, rfl, rfl, by decide +kernel, rfl, by decide +kernel, by decide +kernel⟩
abbrev s_law_window : Stmt := topS 30
abbrev N_law_window : List Str := ["_law_plan_here", "_law_tops_here", "_law_size"]
theorem sc_law_window : FnScope N_law_window ["_law_plan_here"] (defScope s_law_window) := ⟨rfl, rfl, rfl, by decide +kernel, rfl, by decide +kernel, by decide +kernel⟩
abbrev s_law_floor : Stmt := topS 31
abbrev N_law_floor : List Str := ["_law_plan_here", "_law_stand"]
theorem sc_law_floor : FnScope N_law_floor ["_law_plan_here", "_law_stand"] (defScope s_law_floor) := ⟨rfl, rfl, rfl, by decide +kernel, rfl, by decide +kernel, by decide +kernel⟩
abbrev s_law_spots : Stmt := topS 32
abbrev N_law_spots : List Str := ["_law_plan_here", "_law_stands", "_law_found", "_law_tops_here", "_law_stand", "_law_gap_now", "_law_spot", "_law_many", "_law_top"]
theorem sc_law_spots : FnScope N_law_spots ["_law_plan_here", "_law_stands"] (defScope s_law_spots) := ⟨rfl, rfl, rfl, by decide +kernel, rfl, by decide +kernel, by decide +kernel⟩
abbrev s_law_small : Stmt := topS 33
abbrev N_law_small : List Str := ["_law_feed_here", "_law_wide", "_law_is_long", "_law_plan_here", "_law_k", "_law_many", "_law_stair", "_law_last", "_law_phase"]
theorem sc_law_small : FnScope N_law_small ["_law_feed_here"] (defScope s_law_small) := ⟨rfl, rfl, rfl, by decide +kernel, rfl, by decide +kernel, by decide +kernel⟩
abbrev s_law_chain : Stmt := topS 34
abbrev N_law_chain : List Str := ["_law_many", "_law_k", "_law_move", "_law_last", "_law_found", "_law_out", "_law_p", "_law_pair"]
theorem sc_law_chain : FnScope N_law_chain ["_law_many", "_law_k", "_law_move", "_law_last"] (defScope s_law_chain) := ⟨rfl, rfl, rfl, by decide +kernel, rfl, by decide +kernel, by decide +kernel⟩
abbrev s_law : Stmt := topS 35
abbrev N_law : List Str := ["_law_script", "_law_feed_here", "_law_last", "_law_chain_here", "_law_lap", "_law_plan_here", "_law_kept", "_law_firsts", "_law_most", "_law_stands", "_law_due", "_law_told", "_law_rooms", "_law_spot", "_law_many", "_law_stand"]
theorem sc_law : FnScope N_law ["_law_script"] (defScope s_law) := ⟨rfl, rfl, rfl, by decide +kernel, rfl, by decide +kernel, by decide +kernel⟩

/-! ### what is said of the module -/
structure Dfn (K : PySem.W.Frag) (mg : Str → Option Value) (x : Str) (st : Stmt) (f : Addr) (fd : FuncData) (ps : List Str) : Prop where
  fn : L2.Fun K x x st f fd
  mgf : mg x = some (.ref f)
  bd : Binds K fd ps []
structure Cal (P : Program) (w : World) (K : PySem.W.Frag) (mg : Str → Option Value) (base : Heap) (k : Nat) (x : Str) (sp : Sp) : Prop where
  ex : ∃ (f : Addr) (fd : FuncData) (ps : List Str), FnOk P w K mg base L2.CX0 k f fd ps sp ∧ mg x = some (.ref f) ∧ PySem.W.keepIn K (.ref f) = true ∧ Binds K fd ps []
section
variable {P : Program} {w : World} {K : PySem.W.Frag} {mg : Str → Option Value} {base : Heap}
theorem fnok_of {x : Str} {st : Stmt} {f : Addr} {fd : FuncData} {N ps : List Str} {k : Nat} {sp : Sp} (D : Dfn K mg x st f fd ps) (S : FnScope N ps (defScope st)) (len : ∀ vs H Q E, sp vs H Q E → vs.length = ps.length)
    (hbody : ∀ (cdv : Value) (A : Around) (outer : List Env) (s : Shared) (H : Hp) (vs : List V) (Q : VK) (E : XK), Room k (A.deeper (envOfC x (defScope st) s.heap.objs.size f cdv)) → sp vs H Q E →
      ∃ t, PSs (cxOf L2.CX0 P w K mg base N x (defScope st) f cdv A outer s H E).nox (defBody st) t ∧ t { nx := fun _ H' => Q .non H', rt := Q } (start N vs) H) : FnOk P w K mg base L2.CX0 (k + 1) f fd ps sp := D.fn.ok S len hbody
theorem cal_of {x : Str} {st : Stmt} {f : Addr} {fd : FuncData} {ps : List Str} {k : Nat} {sp : Sp} (D : Dfn K mg x st f fd ps) (h : FnOk P w K mg base L2.CX0 k f fd ps sp) : Cal P w K mg base k x sp := ⟨f, fd, ps, h, D.mgf, D.fn.kp, D.bd⟩
end
section
variable {X : Cx} {k j : Nat} {x : Str} {sp : Sp} {p pos : Pos} {e : Expr} {es : List Expr} {t : TA}
theorem pe_c (c : Cal X.prog X.w X.K X.mg X.base k x sp) (hr : Room j X.A) (hk : k ≤ j) (hg : Gl X x) (ha : PA X (e :: es) t)
    (hdb : (x == ("__debug__" : Str)) = false := by decide) (he : starEach (e :: es) X.env = (false, eval e X.env) :: starEach es X.env := by rfl) (hpl : (backTo pos (starEach es X.env)).any (·.1) = false := by rfl) :
    PE X (.Call (.Name x p) (e :: es) [] pos) (tCall sp [] L2.E0 t) := by
  obtain ⟨f, fd, ps, F, hm, kp, b⟩ := c.ex
  exact pe_call F (hr.mono hk) hg hm kp b .nil L2.pass0 ha hdb he hpl
end
/-- len, tuple() with their readings told apart from where they stand -/
def rLen (K : PySem.W.Frag) : List V → Hp → VK → Prop := fun xs H Q => ∃ p ys, xs = [.ref p] ∧ (SqL K H p ys ∨ SqT K H p ys) ∧ Q (.int ys.length) H
theorem cLen {X : Cx} : CallR X (.builtin "len") (rLen X.K) := call_len_seq
def rTup (K : PySem.W.Frag) : List V → Hp → VK → Prop := fun xs H Q => ∃ p ys, xs = [.ref p] ∧ ((SqL K H p ys ∧ ∀ l, H l = none → Q (.ref l) (upd H l (.tup ys))) ∨ (SqT K H p ys ∧ Q (.ref p) H))
theorem cTup {X : Cx} : CallR X (.type "tuple") (rTup X.K) := call_tuple_of
/-- the built-in names that are still what they were, the constants -/
structure Txt (K : PySem.W.Frag) (w : World) (mg : Str → Option Value) (aC aP fA fS : Addr) : Prop where
  len : mg "len" = none
  range : mg "range" = none
  tuple : mg "tuple" = none
  dict : mg "dict" = none
  list : mg "list" = none
  sorted : mg "sorted" = none
  int : mg "int" = none
  max : mg "max" = none
  repr : mg "repr" = none
  gCASES : mg "CASES" = some (.ref aC)
  gPLACES : mg "CASE_PLACES" = some (.ref aP)
  g_any_steps : mg "any_steps" = some (.ref fA)
  g_steady_steps : mg "steady_steps" = some (.ref fS)
  cs : ∀ H : Hp, SqT K H aC [.str "near", .str "at", .str "far"]
  p0 : KDct K w aP "near" (.int 0)
  p1 : KDct K w aP "at" (.int 1)
  p2 : KDct K w aP "far" (.int 2)

/-! ### how the data lie -/
def vR : Rm → V
  | none => .non
  | some a => .int a
def dR : Rm → PyData
  | none => .none
  | some a => .int a
def flS : Nat → Str
  | 0 => "near"
  | 1 => "at"
  | _ => "far"
def mvS : Mv → Str
  | .take => "take"
  | .next => "next"
  | .out => "out"
  | .wait => "wait"
def encSpot (s : Spot) : PyData := .tuple [.int (s.1 : Nat), .int (s.2.1 : Nat), .str (flS s.2.2)]
def encSR (x : Spot × Rm) : PyData := .tuple [encSpot x.1, dR x.2]
def encGR (x : Nat × Rm) : PyData := .tuple [.int (x.1 : Nat), dR x.2]
def encPair (m : Mv × Nat) : PyData := .tuple [.str (mvS m.1), .int (m.2 : Nat)]
def encMarks (ms : List Int) : PyData := .tuple (ms.map .int)
def encPhases (ph : List (List (Mv × Nat))) : PyData := .tuple (ph.map fun P => .tuple (P.map encPair))
def encRule (R : Rule) : PyData := .tuple [encMarks R.ms, encPhases R.ph]
def encI (i : Nat) : PyData := .int (i : Nat)
section
variable {H : Hp} {v : V}
theorem tp_R (r : Rm) : Tp H (vR r) (dR r) := by
  cases r with
  | none => exact .non
  | some a => exact .int a
theorem R_inv {r : Rm} (h : Tp H v (dR r)) : v = vR r := by
  cases r with
  | none => exact h.none_inv
  | some a => exact h.int_inv
theorem spot_inv {s : Spot} (h : Tp H v (encSpot s)) : ∃ a, v = .ref a ∧ H a = some (.tup [.int (s.1 : Nat), .int (s.2.1 : Nat), .str (flS s.2.2)]) := by
  obtain ⟨a, xs, rfl, h1, h2⟩ := h.tup_inv
  cases h2 with
  | cons a1 h2 =>
    cases h2 with
    | cons a2 h2 =>
      cases h2 with
      | cons a3 h2 =>
        cases h2
        rw [a1.int_inv, a2.int_inv, a3.str_inv] at h1
        exact ⟨a, rfl, h1⟩
theorem spot_mk {s : Spot} {a : Addr} (h : H a = some (.tup [.int (s.1 : Nat), .int (s.2.1 : Nat), .str (flS s.2.2)])) : Tp H (.ref a) (encSpot s) := .tup h (.three (.int _) (.int _) (.str _))
theorem two_inv {d e : PyData} (h : Tp H v (.tuple [d, e])) : ∃ a x y, v = .ref a ∧ H a = some (.tup [x, y]) ∧ Tp H x d ∧ Tp H y e := by
  obtain ⟨a, xs, rfl, h1, h2⟩ := h.tup_inv
  cases h2 with
  | cons a1 h2 =>
    cases h2 with
    | cons a2 h2 =>
      cases h2
      exact ⟨a, _, _, rfl, h1, a1, a2⟩
theorem pair_inv {m : Mv × Nat} (h : Tp H v (encPair m)) : ∃ a, v = .ref a ∧ H a = some (.tup [.str (mvS m.1), .int (m.2 : Nat)]) := by
  obtain ⟨a, x, y, rfl, h1, h2, h3⟩ := two_inv h
  rw [h2.str_inv, h3.int_inv] at h1
  exact ⟨a, rfl, h1⟩
theorem gr_inv {x : Nat × Rm} (h : Tp H v (encGR x)) : ∃ a, v = .ref a ∧ H a = some (.tup [.int (x.1 : Nat), vR x.2]) := by
  obtain ⟨a, y, z, rfl, h1, h2, h3⟩ := two_inv h
  rw [h2.int_inv, R_inv h3] at h1
  exact ⟨a, rfl, h1⟩
theorem sr_inv {x : Spot × Rm} (h : Tp H v (encSR x)) : ∃ a b, v = .ref a ∧ H a = some (.tup [.ref b, vR x.2]) ∧ H b = some (.tup [.int (x.1.1 : Nat), .int (x.1.2.1 : Nat), .str (flS x.1.2.2)]) := by
  obtain ⟨a, y, z, rfl, h1, h2, h3⟩ := two_inv h
  obtain ⟨b, rfl, hb⟩ := spot_inv h2
  rw [R_inv h3] at h1
  exact ⟨a, b, rfl, h1, hb⟩
theorem ints_inv : ∀ {ms : List Int} {xs : List V}, TpL H xs (ms.map .int) → xs = ms.map V.int
  | [], _, h => by cases h; rfl
  | m :: ms, _, h => by
    cases h with
    | cons h1 h2 => rw [h1.int_inv, ints_inv h2]; rfl
theorem ints_mk : ∀ {ms : List Int}, TpL H (ms.map V.int) (ms.map .int)
  | [] => .nil
  | m :: ms => .cons (.int m) ints_mk
theorem marks_inv {ms : List Int} (h : Tp H v (encMarks ms)) : ∃ a, v = .ref a ∧ H a = some (.tup (ms.map V.int)) := by
  obtain ⟨a, xs, rfl, h1, h2⟩ := h.tup_inv
  rw [ints_inv h2] at h1
  exact ⟨a, rfl, h1⟩
theorem marks_mk {ms : List Int} {a : Addr} (h : H a = some (.tup (ms.map V.int))) : Tp H (.ref a) (encMarks ms) := .tup h ints_mk
theorem rule_inv {R : Rule} (h : Tp H v (encRule R)) : ∃ a vm ap xs, v = .ref a ∧ H a = some (.tup [vm, .ref ap]) ∧ Tp H vm (encMarks R.ms) ∧ H ap = some (.tup xs) ∧ TpL H xs (R.ph.map fun P => .tuple (P.map encPair)) := by
  obtain ⟨a, x, y, rfl, h1, h2, h3⟩ := two_inv h
  obtain ⟨ap, xs, rfl, h4, h5⟩ := h3.tup_inv
  exact ⟨a, x, ap, xs, rfl, h1, h2, h4, h5⟩
theorem pr_at {R : Rule} (w : R.WF) {p i : Nat} (hp : p < R.N) (hi : i < 3) {xs : List V} (h : TpL H xs (R.ph.map fun P => .tuple (P.map encPair))) :
    ∃ b ys c, xs[p]? = some (.ref b) ∧ H b = some (.tup ys) ∧ ys[i]? = some (.ref c) ∧ H c = some (.tup [.str (mvS (R.pr p i).1), .int ((R.pr p i).2 : Nat)]) := by
  have hp' : p < R.ph.length := hp
  obtain ⟨h1, h2⟩ := w.ok R.ph[p] (List.getElem_mem _)
  have hi' : i < R.ph[p].length := by omega
  have e : R.pr p i = R.ph[p][i] := by
    unfold Rule.pr
    rw [show R.ph.getD p [] = R.ph[p] by rw [List.getD_eq_getElem?_getD, List.getElem?_eq_getElem hp', Option.getD_some], List.getD_eq_getElem?_getD, List.getElem?_eq_getElem hi', Option.getD_some]
  obtain ⟨v1, e1, t1⟩ := h.get (i := p) (d := .tuple (R.ph[p].map encPair)) (by rw [List.getElem?_map, List.getElem?_eq_getElem hp']; rfl)
  obtain ⟨b, ys, rfl, hb, t2⟩ := t1.tup_inv
  obtain ⟨v2, e2, t3⟩ := t2.get (i := i) (d := encPair R.ph[p][i]) (by rw [List.getElem?_map, List.getElem?_eq_getElem hi']; rfl)
  obtain ⟨c, rfl, hc⟩ := pair_inv t3
  exact ⟨b, ys, c, e1, hb, e2, by rw [e]; exact hc⟩
theorem ints_at {ms : List Int} {i : Nat} (hi : i < ms.length) : (ms.map V.int)[i]? = some (.int (mkAt ms i)) := by
  rw [List.getElem?_map, List.getElem?_eq_getElem hi]
  show some (V.int ms[i]) = _
  unfold mkAt
  rw [List.getD_eq_getElem?_getD, List.getElem?_eq_getElem hi]; rfl
end
/-- what comes out: a new list, a tuple -/
def RetL (Q : VK) (H : Hp) (ds : List PyData) : Prop := ∀ H' p xs, Same H H' → H p = none → H' p = some (.lst xs) → TpL H' xs ds → Q (.ref p) H'
def RetT (Q : VK) (H : Hp) (d : PyData) : Prop := ∀ H' v, Same H H' → Tp H' v d → Q v H'
theorem RetL.later {Q : VK} {H H' : Hp} {ds : List PyData} (h : RetL Q H ds) (s : Same H H') : RetL Q H' ds := fun H2 p xs s2 n e t => h H2 p xs (s.trans s2) (s.free n) e t
theorem RetT.later {Q : VK} {H H' : Hp} {d : PyData} (h : RetT Q H d) (s : Same H H') : RetT Q H' d := fun H2 v s2 t => h H2 v (s.trans s2) t

/-! ### comprehensions over data -/
theorem lc_listT {K : PySem.W.Frag} {a : Addr} {xs : List V} {g : TG} {tt : TT} {te : TE} {vs : List Nat} {σ : L2.St} {H1 : Hp} {D : Addr} {Qd : Hp → Prop} {β : Type} {enc : β → PyData} {bs : List β} (f : β → Option PyData)
    (hD : H1 D = none) (hL : SqL K H1 a xs) (hT : TpL H1 xs (bs.map enc)) (hz : bs.length < sizeLine)
    (hs : ∀ (x : V) (d : β) (H : Hp) (R : Option V → Hp → Prop), d ∈ bs → Same H1 H → Tp H x (enc d) → (∀ H', Same H H' → f d = none → R none H') → (∀ y e H', Same H H' → f d = some e → Tp H' y e → R (some y) H') →
      g x (wipe σ vs) H fun σ2 H2 => wipe σ2 vs = wipe σ vs ∧ tt σ2 H2 fun b H3 => if b = true then te σ2 H3 fun y H4 => R (some y) H4 else R none H3)
    (hd : ∀ H acc, Same H1 H → H D = some (.lst acc) → TpL H acc (bs.filterMap f) → Qd H) :
    ∃ W : Nat → Nat → Hp → Prop, (∃ m, W 0 m (upd H1 D (.lst []))) ∧ ∀ i m H, W i m H →
      ((Itl K a).stop i H ∧ Qd H) ∨ ((Itl K a).go i H ∧ ∃ Nx : Hp → Prop, (∀ H', Nx H' → ∃ m', m' < m ∧ W (i + 1) m' H') ∧ ∀ x H', (Itl K a).yld i H x H' → g x (wipe σ vs) H' fun σ2 H2 => wipe σ2 vs = wipe σ vs ∧ tt σ2 H2 fun b H3 =>
        if b = true then te σ2 H3 fun y H4 => ∃ acc, H4 D = some (.lst acc) ∧ acc.length < sizeLine ∧ Nx (upd H4 D (.lst (acc ++ [y]))) else Nx H3) := by
  refine lc_list (xs := xs) (fun i H => Same H1 H ∧ ∃ acc, H D = some (.lst acc) ∧ acc.length ≤ i ∧ TpL H acc ((bs.take i).filterMap f)) ⟨same_upd hD, [], upd_same, Nat.le_refl _, .nil⟩ (fun i H _ h => h.1.seq hL) (fun i x H hi h => ?_) fun H h => ?_
  · obtain ⟨s, acc, hacc, hl, ht⟩ := h
    obtain ⟨d0, hd0, hx⟩ := hT.get' hi
    rw [List.getElem?_map] at hd0
    obtain ⟨d, hd', rfl⟩ := Option.map_eq_some_iff.mp hd0
    have hlen := hT.length
    rw [List.length_map] at hlen
    have hi2 := (List.getElem?_eq_some_iff.mp hd').1
    have et : (bs.take (i + 1)).filterMap f = (bs.take i).filterMap f ++ (f d).toList := by
      rw [List.take_add_one, hd', List.filterMap_append]
      cases e : f d <;> simp [e]
    refine hs x d H (fun o H' => match o with
      | none => Same H1 H' ∧ ∃ acc, H' D = some (.lst acc) ∧ acc.length ≤ i + 1 ∧ TpL H' acc ((bs.take (i + 1)).filterMap f)
      | some y => ∃ acc, H' D = some (.lst acc) ∧ acc.length < sizeLine ∧ (Same H1 (upd H' D (.lst (acc ++ [y]))) ∧ ∃ acc', upd H' D (.lst (acc ++ [y])) D = some (.lst acc') ∧ acc'.length ≤ i + 1 ∧ TpL (upd H' D (.lst (acc ++ [y]))) acc' ((bs.take (i + 1)).filterMap f)))
      (List.mem_of_getElem? hd') s (hx.keep (.of s)) (fun H' s' e => ?_) fun y e H' s' e1 ty => ?_
    · refine ⟨s.trans s', acc, s' _ _ hacc, by omega, ?_⟩
      rw [et, e, Option.toList_none, List.append_nil]
      exact ht.keep (.of s')
    · have hD' := s' _ _ hacc
      refine ⟨acc, hD', by omega, same_mut (s.trans s') hD, acc ++ [y], upd_same, by rw [List.length_append, List.length_singleton]; omega, ?_⟩
      rw [et, e1, Option.toList_some]
      exact ((ht.keep (.of s')).snoc ty).keep (.lst hD')
  · obtain ⟨s, acc, hacc, hl, ht⟩ := h
    rw [hT.length, List.length_map, List.take_length] at ht
    exact hd H acc s hacc ht
theorem lc_tupT {K : PySem.W.Frag} {a : Addr} {xs : List V} {g : TG} {tt : TT} {te : TE} {vs : List Nat} {σ : L2.St} {H1 : Hp} {D : Addr} {Qd : Hp → Prop} {β : Type} {enc : β → PyData} {bs : List β} (f : β → Option PyData)
    (hD : H1 D = none) (hL : H1 a = some (.tup xs)) (hT : TpL H1 xs (bs.map enc)) (hz : bs.length < sizeLine)
    (hs : ∀ (x : V) (d : β) (H : Hp) (R : Option V → Hp → Prop), d ∈ bs → Same H1 H → Tp H x (enc d) → (∀ H', Same H H' → f d = none → R none H') → (∀ y e H', Same H H' → f d = some e → Tp H' y e → R (some y) H') →
      g x (wipe σ vs) H fun σ2 H2 => wipe σ2 vs = wipe σ vs ∧ tt σ2 H2 fun b H3 => if b = true then te σ2 H3 fun y H4 => R (some y) H4 else R none H3)
    (hd : ∀ H acc, Same H1 H → H D = some (.lst acc) → TpL H acc (bs.filterMap f) → Qd H) :
    ∃ W : Nat → Nat → Hp → Prop, (∃ m, W 0 m (upd H1 D (.lst []))) ∧ ∀ i m H, W i m H →
      ((Itt K a).stop i H ∧ Qd H) ∨ ((Itt K a).go i H ∧ ∃ Nx : Hp → Prop, (∀ H', Nx H' → ∃ m', m' < m ∧ W (i + 1) m' H') ∧ ∀ x H', (Itt K a).yld i H x H' → g x (wipe σ vs) H' fun σ2 H2 => wipe σ2 vs = wipe σ vs ∧ tt σ2 H2 fun b H3 =>
        if b = true then te σ2 H3 fun y H4 => ∃ acc, H4 D = some (.lst acc) ∧ acc.length < sizeLine ∧ Nx (upd H4 D (.lst (acc ++ [y]))) else Nx H3) := by
  refine lc_tup (xs := xs) (fun i H => Same H1 H ∧ ∃ acc, H D = some (.lst acc) ∧ acc.length ≤ i ∧ TpL H acc ((bs.take i).filterMap f)) ⟨same_upd hD, [], upd_same, Nat.le_refl _, .nil⟩ (fun i H _ h => SqT.of (h.1 _ _ hL)) (fun i x H hi h => ?_) fun H h => ?_
  · obtain ⟨s, acc, hacc, hl, ht⟩ := h
    obtain ⟨d0, hd0, hx⟩ := hT.get' hi
    rw [List.getElem?_map] at hd0
    obtain ⟨d, hd', rfl⟩ := Option.map_eq_some_iff.mp hd0
    have hlen := hT.length
    rw [List.length_map] at hlen
    have hi2 := (List.getElem?_eq_some_iff.mp hd').1
    have et : (bs.take (i + 1)).filterMap f = (bs.take i).filterMap f ++ (f d).toList := by
      rw [List.take_add_one, hd', List.filterMap_append]
      cases e : f d <;> simp [e]
    refine hs x d H (fun o H' => match o with
      | none => Same H1 H' ∧ ∃ acc, H' D = some (.lst acc) ∧ acc.length ≤ i + 1 ∧ TpL H' acc ((bs.take (i + 1)).filterMap f)
      | some y => ∃ acc, H' D = some (.lst acc) ∧ acc.length < sizeLine ∧ (Same H1 (upd H' D (.lst (acc ++ [y]))) ∧ ∃ acc', upd H' D (.lst (acc ++ [y])) D = some (.lst acc') ∧ acc'.length ≤ i + 1 ∧ TpL (upd H' D (.lst (acc ++ [y]))) acc' ((bs.take (i + 1)).filterMap f)))
      (List.mem_of_getElem? hd') s (hx.keep (.of s)) (fun H' s' e => ?_) fun y e H' s' e1 ty => ?_
    · refine ⟨s.trans s', acc, s' _ _ hacc, by omega, ?_⟩
      rw [et, e, Option.toList_none, List.append_nil]
      exact ht.keep (.of s')
    · have hD' := s' _ _ hacc
      refine ⟨acc, hD', by omega, same_mut (s.trans s') hD, acc ++ [y], upd_same, by rw [List.length_append, List.length_singleton]; omega, ?_⟩
      rw [et, e1, Option.toList_some]
      exact ((ht.keep (.of s')).snoc ty).keep (.lst hD')
  · obtain ⟨s, acc, hacc, hl, ht⟩ := h
    rw [hT.length, List.length_map, List.take_length] at ht
    exact hd H acc s hacc ht
theorem lc_rangeT {lo : Int} {n : Nat} {g : TG} {tt : TT} {te : TE} {vs : List Nat} {σ : L2.St} {H1 : Hp} {D : Addr} {Qd : Hp → Prop} (f : Nat → PyData)
    (hD : H1 D = none) (hz : n < sizeLine)
    (hs : ∀ (i : Nat) (H : Hp) (R : Option V → Hp → Prop), i < n → Same H1 H → (∀ y H', Same H H' → Tp H' y (f i) → R (some y) H') →
      g (.int (lo + i)) (wipe σ vs) H fun σ2 H2 => wipe σ2 vs = wipe σ vs ∧ tt σ2 H2 fun b H3 => if b = true then te σ2 H3 fun y H4 => R (some y) H4 else R none H3)
    (hd : ∀ H acc, Same H1 H → H D = some (.lst acc) → TpL H acc ((List.range n).map f) → Qd H) :
    ∃ W : Nat → Nat → Hp → Prop, (∃ m, W 0 m (upd H1 D (.lst []))) ∧ ∀ i m H, W i m H →
      ((Itr lo n).stop i H ∧ Qd H) ∨ ((Itr lo n).go i H ∧ ∃ Nx : Hp → Prop, (∀ H', Nx H' → ∃ m', m' < m ∧ W (i + 1) m' H') ∧ ∀ x H', (Itr lo n).yld i H x H' → g x (wipe σ vs) H' fun σ2 H2 => wipe σ2 vs = wipe σ vs ∧ tt σ2 H2 fun b H3 =>
        if b = true then te σ2 H3 fun y H4 => ∃ acc, H4 D = some (.lst acc) ∧ acc.length < sizeLine ∧ Nx (upd H4 D (.lst (acc ++ [y]))) else Nx H3) := by
  refine lc_range (fun i H => Same H1 H ∧ ∃ acc, H D = some (.lst acc) ∧ acc.length ≤ i ∧ TpL H acc ((List.range i).map f)) ⟨same_upd hD, [], upd_same, Nat.le_refl _, .nil⟩ (fun i H hi h => ?_) fun H h => ?_
  · obtain ⟨s, acc, hacc, hl, ht⟩ := h
    refine hs i H (fun o H' => match o with
      | none => Same H1 H' ∧ ∃ acc, H' D = some (.lst acc) ∧ acc.length ≤ i + 1 ∧ TpL H' acc ((List.range (i + 1)).map f)
      | some y => ∃ acc, H' D = some (.lst acc) ∧ acc.length < sizeLine ∧ (Same H1 (upd H' D (.lst (acc ++ [y]))) ∧ ∃ acc', upd H' D (.lst (acc ++ [y])) D = some (.lst acc') ∧ acc'.length ≤ i + 1 ∧ TpL (upd H' D (.lst (acc ++ [y]))) acc' ((List.range (i + 1)).map f)))
      hi s fun y H' s' ty => ?_
    have hD' := s' _ _ hacc
    refine ⟨acc, hD', by omega, same_mut (s.trans s') hD, acc ++ [y], upd_same, by rw [List.length_append, List.length_singleton]; omega, ?_⟩
    rw [List.range_succ, List.map_append]
    exact ((ht.keep (.of s')).snoc ty).keep (.lst hD')
  · obtain ⟨s, acc, hacc, hl, ht⟩ := h
    exact hd H acc s hacc ht
end K24
namespace K24
open PySem PySem.Spec PyProof.Rows L2
theorem filterMap_if {α β : Type} {p : α → Prop} [DecidablePred p] {g : α → β} : ∀ l : List α, (l.filterMap fun i => if p i then some (g i) else none) = (l.filter fun i => decide (p i)).map g
  | [] => rfl
  | x :: l => by
    have ih := filterMap_if (p := p) (g := g) l
    by_cases h : p x <;> simp [List.filterMap_cons, List.filter_cons, h, ih]
section
variable {P : Program} {w : World} {K : PySem.W.Frag} {mg : Str → Option Value} {base : Heap} {aC aP fA fS : Addr} {f : Addr} {fd : FuncData}
/-! ### is_enough -/
def sp_is_enough : Sp := fun vs H Q _ => ∃ a b, vs = [vR a, vR b] ∧ Q (.bl (isEnough a b)) H
theorem ok_is_enough (D : Dfn K mg "is_enough" s_is_enough f fd ["room", "wanted"]) : FnOk P w K mg base L2.CX0 1 f fd ["room", "wanted"] sp_is_enough := by
  refine fnok_of D sc_is_enough (fun vs H Q E h => by obtain ⟨a, b, rfl, _⟩ := h; rfl) (fun cdv A outer s H vs Q E hr h => ?_)
  obtain ⟨a, b, rfl, q⟩ := h
  refine ⟨_, (pss_one (ps_ret (pe_or (pe_cmpR op_isN (pv 0) pe_non (nomark _)) (pe_one (pe_and (pe_cmpR op_notN (pv 1) pe_non (nomark _)) (pe_one (pe_cmpR op_ge (pv 0) (pv 1) (nomark _)))))))), ?_⟩
  cases a with
  | none => exact ⟨.non, rfl, rfl, true, rfl, iteT q⟩
  | some a =>
    refine ⟨.int a, rfl, rfl, false, rfl, iteF ?_⟩
    cases b with
    | none => exact ⟨.non, rfl, rfl, false, rfl, iteF q⟩
    | some b =>
      refine ⟨.int b, rfl, rfl, true, rfl, iteT ?_⟩
      exact ⟨.int a, rfl, .int b, rfl, a, b, rfl, rfl, q⟩
/-! ### mark_room -/
def sp_mark_room : Sp := fun vs H Q _ => ∃ vm ms g, vs = [vm, .int (g : Nat)] ∧ Tp H vm (encMarks ms) ∧ 0 < g ∧ g ≤ ms.length ∧ Q (vR (markRoom ms g)) H
theorem dec_int (a b : Int) : decide (V.int a = V.int b) = decide (a = b) := by
  by_cases h : a = b
  · subst h; simp
  · rw [decide_eq_false h, decide_eq_false (fun e => h (V.int.inj e))]
theorem ok_mark_room (T : Txt K w mg aC aP fA fS) (D : Dfn K mg "mark_room" s_mark_room f fd ["marks", "gap"]) : FnOk P w K mg base L2.CX0 1 f fd ["marks", "gap"] sp_mark_room := by
  refine fnok_of D sc_mark_room (fun vs H Q E h => by obtain ⟨vm, ms, g, rfl, _⟩ := h; rfl) (fun cdv A outer s H vs Q E hr h => ?_)
  obtain ⟨vm, ms, g, rfl, hm, h0, hg, q⟩ := h
  obtain ⟨a, rfl, ha⟩ := marks_inv hm
  refine ⟨_, (pss_one (ps_ret (pe_ifExp (pt_cmpR (op_eq) (pv 1) (pe_callB (r := rLen K) cLen (by rfl) T.len (by decide +kernel) (pa_cons (pv 0) pa_nil)) (nomark _)) pe_non (pe_op op_sub (pe_op op_sub (pe_ix (r := rIxT K) ix_tup (pv 0) (pv 1) (fun _ _ => rfl)) pe_int) (pe_ix (r := rIxT K) ix_tup (pv 0) (pe_op op_sub (pv 1) pe_int) (fun _ _ => rfl)))))), ?_⟩
  refine ⟨_, rfl, _, rfl, a, _, rfl, .inr (SqT.of ha), rfl, _, rfl, ite2 (fun e => ?_) (fun e => ?_)⟩
  · have e := of_decide_eq_true e
    have e : g = ms.length := by
      have := V.int.inj e
      rw [List.length_map] at this
      omega
    rw [e, markRoom_none] at q
    exact q
  · have hl : g < ms.length := by
      refine Nat.lt_of_le_of_ne hg fun z => e ?_
      rw [z, List.length_map]
      exact decide_eq_true rfl
    rw [markRoom_some (by omega)] at q
    refine ⟨_, rfl, _, rfl, a, _, _, _, rfl, rfl, SqT.of ha, atI_nat (ints_at hl), _, _, rfl, rfl, _, rfl, _, rfl, _, _, rfl, rfl, a, _, _, _, rfl, rfl, SqT.of ha, at_of (j := g - 1) (by omega) (ints_at (by omega)), _, _, rfl, rfl, q⟩
end
end K24
namespace K24
open PySem PySem.Spec PyProof.Rows L2
/-- a value is made, then the rest -/
theorem asg_cut {te : TE} {g : TG} {u : TS} {D : Ends} {σ : L2.St} {H : Hp} (Pv : V → Hp → Prop) (h1 : ∀ Q : VK, (∀ v H2, Pv v H2 → Q v H2) → te σ H Q) (h2 : ∀ v H2, Pv v H2 → g v σ H2 (u D)) : tSeq (tAsg te g) u D σ H := h1 _ h2
theorem small100 {n : Nat} (h : n ≤ 1000000) : n ≤ sizeLine := Nat.le_trans h (by decide)
theorem small100' {n : Nat} (h : n ≤ 1000000) : n < sizeLine := Nat.lt_of_le_of_lt h (by decide)
theorem mv_inj {a b : Mv} (h : V.str (mvS a) = V.str (mvS b)) : a = b := by
  revert h
  cases a <;> cases b <;> decide +kernel
section
variable {P : Program} {w : World} {K : PySem.W.Frag} {mg : Str → Option Value} {base : Heap} {aC aP fA fS : Addr} {f : Addr} {fd : FuncData}
/-! ### first_room, first_spots -/
def sp_first_room : Sp := fun vs H Q _ => ∃ vm ms g, vs = [vm, .int (g : Nat)] ∧ Tp H vm (encMarks ms) ∧ g ≤ ms.length ∧ Q (vR (firstRoom ms g)) H
theorem ok_first_room (c_mark_room : Cal P w K mg base 1 "mark_room" sp_mark_room) (D : Dfn K mg "first_room" s_first_room f fd ["marks", "gap"]) : FnOk P w K mg base L2.CX0 2 f fd ["marks", "gap"] sp_first_room := by
  refine fnok_of D sc_first_room (fun vs H Q E h => by obtain ⟨vm, ms, g, rfl, _⟩ := h; rfl) (fun cdv A outer s H vs Q E hr h => ?_)
  obtain ⟨vm, ms, g, rfl, hm, hg, q⟩ := h
  refine ⟨_, (pss_one (ps_ret (pe_ifExp (pt_cmpR (op_eq) (pv 1) pe_int (nomark _)) pe_non (pe_c c_mark_room hr (by decide) (by rfl) (pa_cons (pv 0) (pa_cons (pv 1) pa_nil)))))), ?_⟩
  refine ⟨_, rfl, rfl, _, rfl, ite2 (fun e => ?_) (fun e => ?_)⟩
  · have e : g = 0 := by have := V.int.inj (of_decide_eq_true e); omega
    subst e
    exact q
  · have h0 : g ≠ 0 := fun z => e (by subst z; exact decide_eq_true rfl)
    unfold firstRoom at q
    rw [if_neg h0] at q
    exact ⟨_, rfl, _, rfl, vm, ms, g, rfl, hm, by omega, hg, q⟩
def sp_first_spots : Sp := fun vs H Q _ => ∃ vm ms, vs = [vm] ∧ Tp H vm (encMarks ms) ∧ ms.length ≤ 100 ∧ RetL Q H ((firstSpots ms).map encSR)
theorem ok_first_spots (T : Txt K w mg aC aP fA fS) (c_first_room : Cal P w K mg base 2 "first_room" sp_first_room) (D : Dfn K mg "first_spots" s_first_spots f fd ["marks"]) : FnOk P w K mg base L2.CX0 3 f fd ["marks"] sp_first_spots := by
  refine fnok_of D sc_first_spots (fun vs H Q E h => by obtain ⟨vm, ms, rfl, _⟩ := h; rfl) (fun cdv A outer s H vs Q E hr h => ?_)
  obtain ⟨vm, ms, rfl, hm, hl, q⟩ := h
  obtain ⟨a, rfl, ha⟩ := marks_inv hm
  refine ⟨_, (pss_one (ps_ret (pe_lc (own := [("gap", 1)]) (g := gName 1) rfl sc_first_spots.nd (pi_range1 (by rfl) T.range (pa_cons (pe_op op_add (pe_callB (r := rLen K) cLen (by rfl) T.len (by decide +kernel) (pa_cons (pv 0) pa_nil)) pe_int) pa_nil)) (blkOk_by (own := [("gap", 1)]) (N := N_first_spots) (sc := defScope s_first_spots) (by decide +kernel)) (fun _ _ _ _ _ => (pg_name (i := 1) sc_first_spots.nd rfl (.inl rfl))) (fun _ _ _ _ _ => pts_nil) (fun _ _ _ _ _ => (pe_tup (pa_cons (pe_tup (pa_cons pe_int (pa_cons (pv 1) (pa_cons pe_str pa_nil)))) (pa_cons (pe_c c_first_room hr (by decide) (by rfl) (pa_cons (pv 0) (pa_cons (pv 1) pa_nil))) pa_nil))))))), ?_⟩
  have en : ((((ms.map V.int).length : Nat) : Int) + 1).toNat = ms.length + 1 := by rw [List.length_map]; omega
  refine ⟨_, rfl, a, _, rfl, .inr (SqT.of ha), _, _, rfl, rfl, _, rfl, by rw [List.length_map]; omega, by rw [List.length_map]; omega, fun D hD => lc_rangeT (fun g => encSR ((0, g, 0), firstRoom ms g)) hD (small100' (by omega)) (fun i H1 R hi s1 hR => ?_) (fun H1 acc s1 e t => ?_)⟩
  · rw [en] at hi
    rw [Int.zero_add]
    refine ⟨rfl, ?_⟩
    refine ⟨_, rfl, small100 (by show 3 ≤ 1000000; decide), fun b hb => ?_⟩
    have s2 := same_upd (o := .tup [.int 0, .int (i : Nat), .str "near"]) hb
    refine ⟨_, rfl, _, rfl, _, ms, i, rfl, (hm.keep (.of s1)).keep (.of s2), by omega, small100 (by show 2 ≤ 1000000; decide), fun c hc => ?_⟩
    have s3 := same_upd (o := .tup [.ref b, vR (firstRoom ms i)]) hc
    refine hR _ _ (s2.trans s3) (.tup upd_same (.two ?_ (tp_R _)))
    exact (spot_mk (s := (0, i, 0)) upd_same).keep (.of s3)
  · refine q H1 D acc s1 hD e ?_
    rw [en] at t
    unfold firstSpots
    rw [List.map_map]
    exact t
/-! ### coming -/
def sp_coming : Sp := fun vs H Q _ => ∃ vm ms vs' r, ∃ s : Spot, vs = [vm, vs', vR r] ∧ Tp H vm (encMarks ms) ∧ Tp H vs' (encSpot s) ∧ s.2.2 < 3 ∧ RetL Q H ((coming ms s.2.1 s.2.2 r).map encI)
theorem place_at (T : Txt K w mg aC aP fA fS) {fl : Nat} (h : fl < 3) : KDct K w aP (flS fl) (.int (fl : Nat)) := by
  match fl, h with
  | 0, _ => exact T.p0
  | 1, _ => exact T.p1
  | 2, _ => exact T.p2
theorem ok_coming (T : Txt K w mg aC aP fA fS) (c_is_enough : Cal P w K mg base 1 "is_enough" sp_is_enough) (D : Dfn K mg "coming" s_coming f fd ["marks", "spot", "room"]) : FnOk P w K mg base L2.CX0 2 f fd ["marks", "spot", "room"] sp_coming := by
  refine fnok_of D sc_coming (fun vs H Q E h => by obtain ⟨vm, ms, vs', r, s, rfl, _⟩ := h; rfl) (fun cdv A outer s H vs Q E hr h => ?_)
  obtain ⟨vm, ms, vsp, r, ⟨p, g, fl⟩, rfl, hm, hs, hfl, q⟩ := h
  obtain ⟨a, rfl, ha⟩ := marks_inv hm
  obtain ⟨sa, rfl, hsa⟩ := spot_inv hs
  refine ⟨_, (pss_cons (ps_asg (pv 1) (pg_tup rfl (pgs_cons (pg_name (i := 3) sc_coming.nd rfl (.inl rfl)) (pgs_cons (pg_name (i := 4) sc_coming.nd rfl (.inl rfl)) (pgs_cons (pg_name (i := 5) sc_coming.nd rfl (.inr rfl)) pgs_nil)))))
      (pss_cons (ps_set (i := 6) sc_coming.nd rfl (.inl rfl) (pe_cmpR (op_eq) (pv 4) (pe_callB (r := rLen K) cLen (by rfl) T.len (by decide +kernel) (pa_cons (pv 0) pa_nil)) (nomark _)))
      (pss_cons (ps_set (i := 7) sc_coming.nd rfl (.inl rfl) (pe_ifExp (PW.pt (pw_or (pt_val (pv 6)) (pw_or1 (pt_val (pe_c c_is_enough hr (by decide) (by rfl) (pa_cons (pv 2) (pa_cons pe_int pa_nil))))))) (pe_lst (pa_cons pe_int pa_nil)) (pe_lst pa_nil)))
      (pss_cons (ps_set (i := 7) sc_coming.nd rfl (.inl rfl) (pe_ifExp (pt_val (pv 6)) (pv 7) (pe_lst (StX.pa_star (pv 7) (pa_cons pe_int pa_nil)))))
      (pss_one (ps_ret (pe_lc (own := [("i", 8)]) (g := gName 8) rfl sc_coming.nd (pi_list (pe_lst (StX.pa_star (pv 7) (pa_cons pe_int pa_nil)))) (blkOk_by (own := [("i", 8)]) (N := N_coming) (sc := defScope s_coming) (by decide +kernel)) (fun _ _ _ _ _ => (pg_name (i := 8) sc_coming.nd rfl (.inl rfl))) (fun _ _ _ _ _ => (pts_one (pt_cmpR op_ge (pv 8) (pe_ix (r := rIxD K w) ix_kdict (pe_glob (v := .ref aP) (by rfl) T.gPLACES rfl) (pv 5) (fun _ _ => rfl)) (nomark _)))) (fun _ _ _ _ _ => (pv 8))))))))), ?_⟩
  refine ⟨_, rfl, sa, _, rfl, SqT.of hsa, rfl, _, _, rfl, _, _, rfl, _, _, rfl, rfl, ?_⟩
  refine ⟨_, rfl, _, rfl, a, _, rfl, .inr (SqT.of ha), rfl, ?_⟩
  have eo : decide (V.int (g : Nat) = V.int ((ms.map V.int).length : Nat)) = decide (g = ms.length) := by
    rw [dec_int, List.length_map]
    by_cases h : g = ms.length
    · rw [decide_eq_true h, h]; simp
    · rw [decide_eq_false h]; exact decide_eq_false (by omega)
  rw [eo]
  dsimp only [gName]
  generalize hL0 : (if g = ms.length ∨ isEnough r (some 1) = true then [0] else [] : List Nat) = L0
  generalize hL1 : (if g = ms.length then [] else [1] : List Nat) = L1
  have len0 : L0.length ≤ 1 := by rw [← hL0]; split <;> decide
  have len1 : L1.length ≤ 1 := by rw [← hL1]; split <;> decide
  refine asg_cut (fun v H2 => ∃ l, v = .ref l ∧ Same H H2 ∧ H2 l = some (.lst (L0.map fun i : Nat => V.int (i : Nat)))) (fun Q' hQ => ?_) (fun v H2 hv => ?_)
  · refine ⟨_, rfl, _, rfl, ite2 (fun e => ?_) (fun e => ?_)⟩
    · rw [if_pos (.inl (of_decide_eq_true e))] at hL0
      subst hL0
      exact ⟨small100 (by show 1 ≤ 1000000; decide), fun l hl => hQ _ _ ⟨l, rfl, same_upd hl, upd_same⟩⟩
    · refine ⟨_, rfl, r, some 1, rfl, _, rfl, ite2 (fun e2 => ?_) (fun e2 => ?_)⟩
      · rw [if_pos (.inr e2)] at hL0
        subst hL0
        exact ⟨small100 (by show 1 ≤ 1000000; decide), fun l hl => hQ _ _ ⟨l, rfl, same_upd hl, upd_same⟩⟩
      · rw [if_neg (fun z => z.elim (fun z => e (decide_eq_true z)) e2)] at hL0
        subst hL0
        exact ⟨small100 (by show 0 ≤ 1000000; decide), fun l hl => hQ _ _ ⟨l, rfl, same_upd hl, upd_same⟩⟩
  obtain ⟨l, rfl, s1, hl⟩ := hv
  dsimp only [gName]
  refine asg_cut (fun v H3 => ∃ l, v = .ref l ∧ Same H2 H3 ∧ H3 l = some (.lst ((L0 ++ L1).map fun i : Nat => V.int (i : Nat)))) (fun Q' hQ => ?_) (fun v H3 hv => ?_)
  · refine ⟨_, rfl, _, rfl, ite2 (fun e => ?_) (fun e => ?_)⟩
    · rw [if_pos (of_decide_eq_true e)] at hL1
      subst hL1
      exact ⟨_, rfl, hQ _ _ ⟨l, rfl, Same.refl _, by rw [List.append_nil]; exact hl⟩⟩
    · rw [if_neg (fun z => e (decide_eq_true z))] at hL1
      subst hL1
      refine ⟨_, rfl, l, _, rfl, .inr (SqL.of hl), small100 (by rw [List.length_append, List.length_map]; show L0.length + 1 ≤ 1000000; omega), fun p hp => hQ _ _ ⟨p, rfl, same_upd hp, ?_⟩⟩
      rw [upd_same, List.map_append]; rfl
  obtain ⟨l', rfl, s2, hl'⟩ := hv
  dsimp only [gName]
  refine ⟨_, rfl, l', _, rfl, .inr (SqL.of hl'), small100 (by rw [List.length_append, List.length_map, List.length_append]; show L0.length + L1.length + 1 ≤ 1000000; omega), fun p hp => ⟨p, rfl, ⟨_, SqL.of upd_same⟩, fun D hD => ?_⟩⟩
  have s3 := same_upd (o := .lst (((L0 ++ L1).map fun i : Nat => V.int (i : Nat)) ++ [V.int 2])) hp
  have tL : TpL (upd H3 p (.lst (((L0 ++ L1).map fun i : Nat => V.int (i : Nat)) ++ [V.int 2]))) (((L0 ++ L1).map fun i : Nat => V.int (i : Nat)) ++ [V.int 2]) (((L0 ++ L1) ++ [2]).map encI) := by
    have e : (((L0 ++ L1).map fun i : Nat => V.int (i : Nat)) ++ [V.int 2]) = (((L0 ++ L1) ++ [2]).map fun i : Nat => V.int (i : Nat)) := by rw [List.map_append (l₂ := [2])]; rfl
    rw [e]
    exact TpL.map fun i _ => Tp.int (i : Nat)
  refine lc_listT (fun i : Nat => if fl ≤ i then some (encI i) else none) hD (SqL.of upd_same) tL (small100' (by rw [List.length_append, List.length_append]; show L0.length + L1.length + 1 ≤ 1000000; omega)) (fun x i H4 R hd s4 hx h0 h1 => ?_) (fun H4 acc s4 e t => ?_)
  · have hx := hx.int_inv
    subst hx
    refine ⟨rfl, _, rfl, _, rfl, _, _, _, rfl, rfl, place_at T hfl, _, _, rfl, rfl, _, rfl, ite2 (fun e => ?_) (fun e => ?_)⟩
    · have e : (fl : Int) ≤ (i : Nat) := of_decide_eq_true e
      exact ⟨_, rfl, h1 _ (encI i) _ (Same.refl _) (if_pos (by omega)) (.int _)⟩
    · have e : ¬ (fl : Int) ≤ (i : Nat) := fun z => e (decide_eq_true z)
      exact h0 _ (Same.refl _) (if_neg (by omega))
  · refine q H4 D acc (s1.trans (s2.trans (s3.trans s4))) ?_ e ?_
    · exact s1.free (s2.free (s3.free hD))
    · rw [filterMap_if] at t
      show TpL H4 acc ((coming ms g fl r).map encI)
      unfold coming
      rw [hL0, hL1]
      exact t
/-! ### far_goals -/
def sp_far_goals : Sp := fun vs H Q _ => ∃ vm ms g, vs = [vm, .int (g : Nat)] ∧ Tp H vm (encMarks ms) ∧ ms.length ≤ 100 ∧ g < ms.length ∧ RetL Q H ((farGoals ms g).map encGR)
theorem ok_far_goals (T : Txt K w mg aC aP fA fS) (c_mark_room : Cal P w K mg base 1 "mark_room" sp_mark_room) (D : Dfn K mg "far_goals" s_far_goals f fd ["marks", "gap"]) : FnOk P w K mg base L2.CX0 2 f fd ["marks", "gap"] sp_far_goals := by
  refine fnok_of D sc_far_goals (fun vs H Q E h => by obtain ⟨vm, ms, g, rfl, _⟩ := h; rfl) (fun cdv A outer s H vs Q E hr h => ?_)
  obtain ⟨vm, ms, g, rfl, hm, hl, hg, q⟩ := h
  obtain ⟨a, rfl, ha⟩ := marks_inv hm
  refine ⟨_, (pss_cons (ps_set (i := 2) sc_far_goals.nd rfl (.inl rfl) (pe_lst pa_nil))
      (pss_cons (ps_for PassesOwn.never rfl (pi_range2 (by rfl) T.range (pa_cons (pe_op op_add (pv 1) pe_int) (pa_cons (pe_op op_add (pe_callB (r := rLen K) cLen (by rfl) T.len (by decide +kernel) (pa_cons (pv 0) pa_nil)) pe_int) pa_nil))) (pg_name (i := 3) sc_far_goals.nd rfl (.inl rfl))
      (pss_cons (ps_set (i := 4) sc_far_goals.nd rfl (.inl rfl) (pe_c c_mark_room hr (by decide) (by rfl) (pa_cons (pv 0) (pa_cons (pv 3) pa_nil))))
      (pss_one (ps_if (PW.pt (pw_or (pt_cmpR op_gt (pv 3) (pe_op op_add (pv 1) pe_int) (nomark _)) (pw_or1 (pt_cmpR op_isN (pv 4) pe_non (nomark _))))) (pss_one (ps_expr (pe_bm PySem.F.plainAttrs_list PySem.F.slot_list_append PySem.F.type_list_append mt_append (pv 2) (pa_cons (pe_tup (pa_cons (pv 3) (pa_cons (pv 4) pa_nil))) pa_nil)))) (pss_one (ps_if (pt_cmpR op_gt (pv 4) pe_int (nomark _)) (pss_one (ps_expr (pe_bm PySem.F.plainAttrs_list PySem.F.slot_list_append PySem.F.type_list_append mt_append (pv 2) (pa_cons (pe_tup (pa_cons (pv 3) (pa_cons (pe_op op_sub (pv 4) pe_int) pa_nil))) pa_nil)))) pss_nil))))))
      (pss_one (ps_ret (pv 2))))), ?_⟩
  refine ⟨Nat.zero_le _, fun o ho => ?_⟩
  have s1 := same_upd (o := .lst []) ho
  have ha1 := s1 _ _ ha
  refine ⟨_, rfl, _, _, rfl, rfl, _, rfl, a, _, rfl, .inr (SqT.of ha1), _, _, rfl, rfl, _, _, rfl, ⟨by omega, by omega, by rw [List.length_map]; omega, by rw [List.length_map]; omega⟩, ?_⟩
  have en : (((((ms.map V.int).length : Nat) : Int) + 1) - ((g : Int) + 1)).toNat = ms.length + 1 - (g + 1) := by rw [List.length_map]; omega
  refine for_range (fun i σ H1 => ∃ y3 y4 acc, σ = [some (.ref a), some (.int (g : Nat)), some (.ref o), y3, y4] ∧ Same H H1 ∧ H1 o = some (.lst acc) ∧ acc.length ≤ i ∧ TpL H1 acc ((((gapsFrom ms (g + 1)).take i).filterMap (farGoal ms g)).map encGR))
    ⟨none, none, [], rfl, s1, upd_same, Nat.le_refl _, .nil⟩ (fun i σ H1 hi hP => ?_) (fun σ H1 hP => ?_)
  · obtain ⟨y3, y4, acc, rfl, sm, ho1, hal, ht⟩ := hP
    rw [en] at hi
    have ei : (g : Int) + 1 + (i : Nat) = ((g + 1 + i : Nat) : Int) := by omega
    rw [ei]
    have eg : (gapsFrom ms (g + 1))[i]? = some (g + 1 + i) := by
      unfold gapsFrom
      rw [List.getElem?_range' (by omega)]
      congr 1; omega
    have et : (((gapsFrom ms (g + 1)).take (i + 1)).filterMap (farGoal ms g)) = (((gapsFrom ms (g + 1)).take i).filterMap (farGoal ms g)) ++ (farGoal ms g (g + 1 + i)).toList := by
      rw [List.take_add_one, eg, List.filterMap_append]
      cases e : farGoal ms g (g + 1 + i) <;> simp [e]
    have hm1 : Tp H1 (.ref a) (encMarks ms) := hm.keep (.of sm)
    -- room = mark_room(marks, later)
    refine ⟨_, rfl, _, rfl, .ref a, ms, g + 1 + i, rfl, hm1, by omega, by omega, ?_⟩
    have stay : farGoal ms g (g + 1 + i) = none → ∃ y3' y4' acc, [some (V.ref a), some (V.int (g : Nat)), some (V.ref o), some (V.int ((g + 1 + i : Nat) : Int)), some (vR (markRoom ms (g + 1 + i)))] = [some (V.ref a), some (V.int (g : Nat)), some (V.ref o), y3', y4'] ∧ Same H H1 ∧ H1 o = some (.lst acc) ∧ acc.length ≤ i + 1 ∧ TpL H1 acc ((((gapsFrom ms (g + 1)).take (i + 1)).filterMap (farGoal ms g)).map encGR) := fun e => by
      refine ⟨_, _, acc, rfl, sm, ho1, by omega, ?_⟩
      rw [et, e, Option.toList_none, List.append_nil]; exact ht
    have push : ∀ (rr : Rm) (c : Addr), H1 c = none → farGoal ms g (g + 1 + i) = some (g + 1 + i, rr) → ∃ l xs y, V.ref o = .ref l ∧ [V.ref c] = [y] ∧ (upd H1 c (.tup [.int ((g + 1 + i : Nat) : Int), vR rr])) l = some (.lst xs) ∧ xs.length < sizeLine ∧
        ∃ y3' y4' acc, [some (V.ref a), some (V.int (g : Nat)), some (V.ref o), some (V.int ((g + 1 + i : Nat) : Int)), some (vR (markRoom ms (g + 1 + i)))] = [some (V.ref a), some (V.int (g : Nat)), some (V.ref o), y3', y4'] ∧ Same H (upd (upd H1 c (.tup [.int ((g + 1 + i : Nat) : Int), vR rr])) l (.lst (xs ++ [y]))) ∧
          (upd (upd H1 c (.tup [.int ((g + 1 + i : Nat) : Int), vR rr])) l (.lst (xs ++ [y]))) o = some (.lst acc) ∧ acc.length ≤ i + 1 ∧ TpL (upd (upd H1 c (.tup [.int ((g + 1 + i : Nat) : Int), vR rr])) l (.lst (xs ++ [y]))) acc ((((gapsFrom ms (g + 1)).take (i + 1)).filterMap (farGoal ms g)).map encGR) := fun rr c hc e => by
      have s2 := same_upd (o := .tup [.int ((g + 1 + i : Nat) : Int), vR rr]) hc
      have ho2 := s2 _ _ ho1
      refine ⟨o, acc, .ref c, rfl, rfl, ho2, small100' (by omega), _, _, acc ++ [.ref c], rfl, same_mut (sm.trans s2) ho, upd_same, by rw [List.length_append, List.length_singleton]; omega, ?_⟩
      rw [et, e, Option.toList_some, List.map_append]
      refine TpL.keep (.lst ho2) ((ht.keep (.of s2)).app (.one (.tup upd_same (.two (.int _) (tp_R rr)))))
    by_cases eo : g + 1 + i = ms.length
    · rw [eo] at stay push ⊢
      have ef : farGoal ms g ms.length = some (ms.length, none) := by unfold farGoal; rw [markRoom_none]
      rw [markRoom_none] at push ⊢
      refine ⟨_, rfl, _, rfl, _, _, rfl, rfl, _, _, rfl, rfl, _, rfl, ite2 (fun e => ?_) (fun e => ?_)⟩
      · exact ⟨_, rfl, .inl ⟨rfl, _, SqL.of ho1⟩, _, rfl, _, rfl, small100 (by show 2 ≤ 1000000; decide), fun c hc => push none c hc ef⟩
      · exact ⟨_, rfl, rfl, _, rfl, _, rfl, .inl ⟨rfl, _, SqL.of ho1⟩, _, rfl, _, rfl, small100 (by show 2 ≤ 1000000; decide), fun c hc => push none c hc ef⟩
    · have em := markRoom_some (ms := ms) eo
      generalize hrr : mkAt ms (g + 1 + i) - 1 - mkAt ms (g + 1 + i - 1) = rr at em
      have ef : farGoal ms g (g + 1 + i) = if g + 1 < g + 1 + i then some (g + 1 + i, some rr) else if 0 < rr then some (g + 1 + i, some (rr - 1)) else none := by unfold farGoal; rw [em]
      rw [em] at stay push ⊢
      refine ⟨_, rfl, _, rfl, _, _, rfl, rfl, _, _, rfl, rfl, _, rfl, ite2 (fun e => ?_) (fun e => ?_)⟩
      · have e := of_decide_eq_true e
        rw [if_pos (by omega)] at ef
        exact ⟨_, rfl, .inl ⟨rfl, _, SqL.of ho1⟩, _, rfl, _, rfl, small100 (by show 2 ≤ 1000000; decide), fun c hc => push (some rr) c hc ef⟩
      · have e : ¬ ((g : Int) + 1 < ((g + 1 + i : Nat) : Int)) := fun z => e (decide_eq_true z)
        rw [if_neg (by omega)] at ef
        refine ⟨_, rfl, rfl, _, rfl, _, rfl, _, _, rfl, rfl, _, rfl, ite2 (fun e2 => ?_) (fun e2 => ?_)⟩
        · rw [if_pos (of_decide_eq_true e2)] at ef
          exact ⟨_, rfl, .inl ⟨rfl, _, SqL.of ho1⟩, _, rfl, _, rfl, _, _, rfl, rfl, small100 (by show 2 ≤ 1000000; decide), fun c hc => push (some (rr - 1)) c hc ef⟩
        · rw [if_neg (fun z => e2 (decide_eq_true z))] at ef
          exact stay ef
  · obtain ⟨y3, y4, acc, rfl, sm, ho1, hal, ht⟩ := hP
    rw [en] at ht
    have eg : (gapsFrom ms (g + 1)).take (ms.length + 1 - (g + 1)) = gapsFrom ms (g + 1) := List.take_of_length_le (by unfold gapsFrom; rw [List.length_range']; omega)
    rw [eg] at ht
    exact ⟨_, rfl, q H1 o acc sm ho ho1 ht⟩
end
end K24
namespace K24
open PySem PySem.Spec PyProof.Rows L2
/-- a test that leaves the heap as it is, then the rest -/
theorem if_cut {c : TT} {t u rest : TS} {D : Ends} {σ : L2.St} {H : Hp} (p : Prop) [Decidable p] (hc : ∀ Q : Bool → Hp → Prop, Q (decide p) H → c σ H Q) (h1 : p → t { D with nx := rest D } σ H) (h2 : ¬ p → u { D with nx := rest D } σ H) : tSeq (tIfS c t u) rest D σ H := by
  refine hc _ ?_
  by_cases h : p
  · rw [decide_eq_true h]; exact iteT (h1 h)
  · rw [decide_eq_false h]; exact iteF (h2 h)
theorem if_one {c : TT} {t rest : TS} {D : Ends} {σ : L2.St} {H : Hp} (p : Prop) [Decidable p] (hc : ∀ Q : Bool → Hp → Prop, Q (decide p) H → c σ H Q) (h1 : p → t { D with nx := rest D } σ H) (h2 : ¬ p → rest D σ H) : tSeq (tIfS c t tNext) rest D σ H := if_cut p hc h1 h2
theorem mb_succ (R : Rule) (i k p : Nat) : moveBehind R i (k + 1) p = if (R.pr p i).1 = .wait then moveBehind R i k (R.pr p i).2 else some (R.pr p i) := rfl
theorem dec_mv {a : Mv} (b : Mv) : decide (V.str (mvS a) = V.str (mvS b)) = decide (a = b) := by
  by_cases h : a = b
  · subst h; rw [decide_eq_true rfl, decide_eq_true rfl]
  · rw [decide_eq_false h, decide_eq_false (fun e => h (mv_inj e))]
theorem dec_nat {a b : Nat} : decide (V.int (a : Nat) = V.int (b : Nat)) = decide (a = b) := by
  rw [dec_int]
  by_cases h : a = b
  · subst h; rw [decide_eq_true rfl, decide_eq_true rfl]
  · rw [decide_eq_false h, decide_eq_false (by omega)]
theorem nat_items {H : Hp} {xs : List V} {cs : List Nat} (h : TpL H xs (cs.map encI)) {i : Nat} {x : V} (e : xs[i]? = some x) : ∃ c, cs[i]? = some c ∧ x = .int (c : Nat) := by
  obtain ⟨d, hd, hx⟩ := h.get' e
  rw [List.getElem?_map] at hd
  obtain ⟨c, hc, rfl⟩ := Option.map_eq_some_iff.mp hd
  exact ⟨c, hc, hx.int_inv⟩
theorem gapsFrom_len (ms : List Int) (a : Nat) : (gapsFrom ms a).length = ms.length + 1 - a := by unfold gapsFrom; rw [List.length_range']
theorem goals_len (ms : List Int) (g : Nat) (r : Rm) (i : Nat) (mv : Mv) : (goals ms g r i mv).length ≤ ms.length + 1 := by
  unfold goals
  repeat' split
  all_goals first
    | (show _ ≤ _; simp; done)
    | (unfold farGoals; refine Nat.le_trans (List.length_filterMap_le _ _) ?_; rw [gapsFrom_len]; omega)
    | (rw [List.length_map, gapsFrom_len]; omega)
section
variable {P : Program} {w : World} {K : PySem.W.Frag} {mg : Str → Option Value} {base : Heap} {aC aP fA fS : Addr} {f : Addr} {fd : FuncData}
/-! ### goals -/
def sp_goals : Sp := fun vs H Q _ => ∃ vm ms g r i mv, vs = [vm, .int (g : Nat), vR r, .int (i : Nat), .str (mvS mv)] ∧ Tp H vm (encMarks ms) ∧ ms.length ≤ 100 ∧ g ≤ ms.length ∧ i < 3 ∧ RetL Q H ((goals ms g r i mv).map encGR)
theorem ok_goals (T : Txt K w mg aC aP fA fS) (c_mark_room : Cal P w K mg base 1 "mark_room" sp_mark_room) (c_far_goals : Cal P w K mg base 2 "far_goals" sp_far_goals) (D : Dfn K mg "goals" s_goals f fd ["marks", "gap", "room", "i", "move"]) : FnOk P w K mg base L2.CX0 3 f fd ["marks", "gap", "room", "i", "move"] sp_goals := by
  refine fnok_of D sc_goals (fun vs H Q E h => by obtain ⟨vm, ms, g, r, i, mv, rfl, _⟩ := h; rfl) (fun cdv A outer s H vs Q E hr h => ?_)
  obtain ⟨vm, ms, g, r, i, mv, rfl, hm, hl, hg, hi, q⟩ := h
  obtain ⟨a, rfl, ha⟩ := marks_inv hm
  refine ⟨_, (pss_cons (ps_if (pt_cmpR (op_eq) (pv 4) pe_str (nomark _)) (pss_one (ps_ret (pe_lst pa_nil))) pss_nil)
      (pss_cons (ps_if (pt_cmpR (op_eq) (pv 4) pe_str (nomark _)) (pss_one (ps_ret (pe_lst (pa_cons (pe_tup (pa_cons (pv 1) (pa_cons (pv 2) pa_nil))) pa_nil)))) pss_nil)
      (pss_cons (ps_if (PW.pt (pw_and (pt_cmpR (op_eq) (pv 4) pe_str (nomark _)) (pw_and1 (pt_cmpR (op_eq) (pv 3) pe_int (nomark _))))) (pss_one (ps_ret (pe_lst (pa_cons (pe_tup (pa_cons (pv 1) (pa_cons (pe_ifExp (pt_cmpR op_isN (pv 2) pe_non (nomark _)) pe_non (pe_op op_sub (pv 2) pe_int)) pa_nil))) pa_nil)))) pss_nil)
      (pss_cons (ps_if (pt_cmpR (op_eq) (pv 1) (pe_callB (r := rLen K) cLen (by rfl) T.len (by decide +kernel) (pa_cons (pv 0) pa_nil)) (nomark _)) (pss_one (ps_ret (pe_lst pa_nil))) pss_nil)
      (pss_cons (ps_if (pt_cmpR op_lt (pv 3) pe_int (nomark _)) (pss_one (ps_ret (pe_lst (pa_cons (pe_tup (pa_cons (pe_op op_add (pv 1) pe_int) (pa_cons (pe_c c_mark_room hr (by decide) (by rfl) (pa_cons (pv 0) (pa_cons (pe_op op_add (pv 1) pe_int) pa_nil))) pa_nil))) pa_nil)))) pss_nil)
      (pss_cons (ps_if (pt_cmpR (op_eq) (pv 4) pe_str (nomark _)) (pss_one (ps_ret (pe_c c_far_goals hr (by decide) (by rfl) (pa_cons (pv 0) (pa_cons (pv 1) pa_nil))))) pss_nil)
      (pss_one (ps_ret (pe_lc (own := [("later", 5)]) (g := gName 5) rfl sc_goals.nd (pi_range2 (by rfl) T.range (pa_cons (pe_op op_add (pv 1) pe_int) (pa_cons (pe_op op_add (pe_callB (r := rLen K) cLen (by rfl) T.len (by decide +kernel) (pa_cons (pv 0) pa_nil)) pe_int) pa_nil))) (blkOk_by (own := [("later", 5)]) (N := N_goals) (sc := defScope s_goals) (by decide +kernel)) (fun _ _ _ _ _ => (pg_name (i := 5) sc_goals.nd rfl (.inl rfl))) (fun _ _ _ _ _ => pts_nil) (fun _ _ _ _ _ => (pe_tup (pa_cons (pv 5) (pa_cons (pe_c c_mark_room hr (by decide) (by rfl) (pa_cons (pv 0) (pa_cons (pv 5) pa_nil))) pa_nil))))))))))))), ?_⟩
  unfold goals at q
  refine if_one (mv = .out) (fun Q' hQ => ⟨_, rfl, rfl, _, rfl, by rw [← dec_mv .out] at hQ; exact hQ⟩) (fun h => ?_) (fun h1 => ?_)
  · rw [if_pos h] at q
    exact ⟨small100 (by show 0 ≤ 1000000; decide), fun p hp => q _ p [] (same_upd hp) hp upd_same .nil⟩
  rw [if_neg h1] at q
  refine if_one (mv = .wait) (fun Q' hQ => ⟨_, rfl, rfl, _, rfl, by rw [← dec_mv .wait] at hQ; exact hQ⟩) (fun h => ?_) (fun h2 => ?_)
  · rw [if_pos h] at q
    refine ⟨_, rfl, _, rfl, small100 (by show 2 ≤ 1000000; decide), fun b hb => ⟨small100 (by show 1 ≤ 1000000; decide), fun p hp => ?_⟩⟩
    refine q _ p [.ref b] ((same_upd hb).trans (same_upd hp)) ((same_upd (o := .tup [.int (g : Nat), vR r]) hb).free hp) upd_same (.one ?_)
    exact (Tp.tup upd_same (.two (.int _) (tp_R r))).keep (.of (same_upd hp))
  rw [if_neg h2] at q
  refine if_one (mv = .take ∧ i = 0) (fun Q' hQ => ⟨_, rfl, rfl, _, rfl, ite2 (fun e => ?_) (fun e => ?_)⟩) (fun h => ?_) (fun h3 => ?_)
  · have e := mv_inj (b := .take) (of_decide_eq_true e)
    refine ⟨_, rfl, rfl, _, rfl, ?_⟩
    have ed : decide (V.int (i : Nat) = V.int 0) = decide (mv = .take ∧ i = 0) := by
      rw [show V.int 0 = V.int ((0 : Nat) : Int) from rfl, dec_nat]
      by_cases h : i = 0
      · rw [decide_eq_true h, decide_eq_true ⟨e, h⟩]
      · rw [decide_eq_false h, decide_eq_false (fun z => h z.2)]
    rw [ed]; exact hQ
  · have e : ¬ mv = .take := fun z => e (by subst z; exact decide_eq_true rfl)
    rw [decide_eq_false (fun z => e z.1)] at hQ
    exact hQ
  · rw [if_pos h] at q
    have fin : ∀ (b : Addr), H b = none → ∀ p, (upd H b (.tup [.int (g : Nat), vR (r.map (· - 1))])) p = none → Q (.ref p) (upd (upd H b (.tup [.int (g : Nat), vR (r.map (· - 1))])) p (.lst [.ref b])) := fun b hb p hp => by
      refine q _ p [.ref b] ((same_upd hb).trans (same_upd hp)) ((same_upd (o := .tup [.int (g : Nat), vR (r.map (· - 1))]) hb).free hp) upd_same (.one ?_)
      exact (Tp.tup upd_same (.two (.int _) (tp_R _))).keep (.of (same_upd hp))
    cases r with
    | none => exact ⟨_, rfl, _, rfl, rfl, _, rfl, small100 (by show 2 ≤ 1000000; decide), fun b hb => ⟨small100 (by show 1 ≤ 1000000; decide), fun p hp => fin b hb p hp⟩⟩
    | some c => exact ⟨_, rfl, _, rfl, rfl, _, rfl, _, rfl, _, _, rfl, rfl, small100 (by show 2 ≤ 1000000; decide), fun b hb => ⟨small100 (by show 1 ≤ 1000000; decide), fun p hp => fin b hb p hp⟩⟩
  rw [if_neg h3] at q
  refine if_one (g = ms.length) (fun Q' hQ => ⟨_, rfl, _, rfl, a, _, rfl, .inr (SqT.of ha), rfl, _, rfl, by rw [List.length_map, dec_nat]; exact hQ⟩) (fun h => ?_) (fun h4 => ?_)
  · rw [if_pos h] at q
    exact ⟨small100 (by show 0 ≤ 1000000; decide), fun p hp => q _ p [] (same_upd hp) hp upd_same .nil⟩
  rw [if_neg h4] at q
  refine if_one (i < 2) (fun Q' hQ => ⟨_, rfl, _, _, rfl, rfl, _, rfl, ?_⟩) (fun h => ?_) (fun h5 => ?_)
  · have ed : decide ((i : Int) < 2) = decide (i < 2) := by
      by_cases h : i < 2
      · rw [decide_eq_true h, decide_eq_true (by omega)]
      · rw [decide_eq_false h, decide_eq_false (by omega)]
    rw [ed]; exact hQ
  · rw [if_pos h] at q
    refine ⟨_, rfl, _, _, rfl, rfl, _, rfl, _, rfl, _, _, rfl, rfl, _, ms, g + 1, rfl, hm, by omega, by omega, small100 (by show 2 ≤ 1000000; decide), fun b hb => ⟨small100 (by show 1 ≤ 1000000; decide), fun p hp => ?_⟩⟩
    refine q _ p [.ref b] ((same_upd hb).trans (same_upd hp)) ((same_upd (o := .tup [.int ((g : Int) + 1), vR (markRoom ms (g + 1))]) hb).free hp) upd_same (.one ?_)
    exact (Tp.tup upd_same (.two (.int ((g + 1 : Nat) : Int)) (tp_R _))).keep (.of (same_upd hp))
  rw [if_neg h5] at q
  refine if_one (mv = .take) (fun Q' hQ => ⟨_, rfl, rfl, _, rfl, by rw [← dec_mv .take] at hQ; exact hQ⟩) (fun h => ?_) (fun h6 => ?_)
  · rw [if_pos h] at q
    exact ⟨_, rfl, _, rfl, _, ms, g, rfl, hm, hl, Nat.lt_of_le_of_ne hg h4, q⟩
  rw [if_neg h6] at q
  have en : (((((ms.map V.int).length : Nat) : Int) + 1) - ((g : Int) + 2)).toNat = ms.length + 1 - (g + 2) := by rw [List.length_map]; omega
  refine ⟨_, rfl, _, _, rfl, rfl, _, rfl, a, _, rfl, .inr (SqT.of ha), _, _, rfl, rfl, _, _, rfl, ⟨by omega, by omega, by rw [List.length_map]; omega, by rw [List.length_map]; omega⟩, fun D hD => lc_rangeT (fun k => encGR (g + 2 + k, markRoom ms (g + 2 + k))) hD (small100' (by omega)) (fun k H1 R hk s1 hR => ?_) (fun H1 acc s1 e t => ?_)⟩
  · rw [en] at hk
    rw [show (g : Int) + 2 + (k : Nat) = ((g + 2 + k : Nat) : Int) by omega]
    refine ⟨rfl, _, rfl, _, rfl, _, rfl, _, ms, g + 2 + k, rfl, hm.keep (.of s1), by omega, by omega, small100 (by show 2 ≤ 1000000; decide), fun c hc => ?_⟩
    exact hR _ _ (same_upd hc) (.tup upd_same (.two (.int _) (tp_R _)))
  · refine q H1 D acc s1 hD e ?_
    rw [en] at t
    unfold gapsFrom
    rw [List.map_map, List.range'_eq_map_range, List.map_map]
    exact t
/-! ### steps_by -/
def sp_steps_by : Sp := fun vs H Q _ => ∃ vr R vsp r i, ∃ s : Spot, vs = [vr, vsp, vR r, .int (i : Nat)] ∧ Tp H vr (encRule R) ∧ R.WF ∧ R.ms.length ≤ 100 ∧ Tp H vsp (encSpot s) ∧ s.1 < R.N ∧ s.2.1 ≤ R.ms.length ∧ i < 3 ∧ RetL Q H ((stepsBy R s r i).map encSR)
theorem ok_steps_by (T : Txt K w mg aC aP fA fS) (c_goals : Cal P w K mg base 3 "goals" sp_goals) (D : Dfn K mg "steps_by" s_steps_by f fd ["rule", "spot", "room", "i"]) : FnOk P w K mg base L2.CX0 4 f fd ["rule", "spot", "room", "i"] sp_steps_by := by
  refine fnok_of D sc_steps_by (fun vs H Q E h => by obtain ⟨vr, R, vsp, r, i, s, rfl, _⟩ := h; rfl) (fun cdv A outer s H vs Q E hr h => ?_)
  obtain ⟨vr, R, vsp, r, i, ⟨p, g, fl⟩, rfl, hR, wf, hl, hs, hp, hg, hi, q⟩ := h
  obtain ⟨sa, rfl, hsa⟩ := spot_inv hs
  obtain ⟨ra, vm, pa, xs, rfl, hra, hm, hpa, tpa⟩ := rule_inv hR
  obtain ⟨b, ys, c, ex, hb, ey, hc⟩ := pr_at wf hp hi tpa
  refine ⟨_, (pss_cons (ps_asg (pv 1) (pg_tup rfl (pgs_cons (pg_name (i := 4) sc_steps_by.nd rfl (.inl rfl)) (pgs_cons (pg_name (i := 5) sc_steps_by.nd rfl (.inl rfl)) (pgs_cons (pg_name (i := 6) sc_steps_by.nd rfl (.inl rfl)) pgs_nil)))))
      (pss_cons (ps_asg (pe_ix (r := rIxT K) ix_tup (pe_ix (r := rIxT K) ix_tup (pe_ix (r := rIxT K) ix_tup (pv 0) pe_int (fun _ _ => rfl)) (pv 4) (fun _ _ => rfl)) (pv 3) (fun _ _ => rfl)) (pg_tup rfl (pgs_cons (pg_name (i := 7) sc_steps_by.nd rfl (.inl rfl)) (pgs_cons (pg_name (i := 8) sc_steps_by.nd rfl (.inr rfl)) pgs_nil))))
      (pss_cons (ps_set (i := 9) sc_steps_by.nd rfl (.inr rfl) (pe_ifExp (pt_cmpR (op_eq) (pv 7) pe_str (nomark _)) (pe_ix (r := rIxT K) ix_tup (pe_glob (v := .ref aC) (by rfl) T.gCASES rfl) (pv 3) (fun _ _ => rfl)) pe_str))
      (pss_one (ps_ret (pe_lc (own := [("goal", 10), ("late", 11)]) (g := gTup K 2 (gCons (gName 10) (gCons (gName 11) gNil))) rfl sc_steps_by.nd (pi_list (pe_c c_goals hr (by decide) (by rfl) (pa_cons (pe_ix (r := rIxT K) ix_tup (pv 0) pe_int (fun _ _ => rfl)) (pa_cons (pv 5) (pa_cons (pv 2) (pa_cons (pv 3) (pa_cons (pv 7) pa_nil))))))) (blkOk_by (own := [("goal", 10), ("late", 11)]) (N := N_steps_by) (sc := defScope s_steps_by) (by decide +kernel)) (fun _ _ _ _ _ => (pg_tup rfl (pgs_cons (pg_name (i := 10) sc_steps_by.nd rfl (.inl rfl)) (pgs_cons (pg_name (i := 11) sc_steps_by.nd rfl (.inl rfl)) pgs_nil)))) (fun _ _ _ _ _ => pts_nil) (fun _ _ _ _ _ => (pe_tup (pa_cons (pe_tup (pa_cons (pv 8) (pa_cons (pv 10) (pa_cons (pv 9) pa_nil)))) (pa_cons (pv 11) pa_nil)))))))))), ?_⟩
  refine ⟨_, rfl, sa, _, rfl, SqT.of hsa, rfl, _, _, rfl, _, _, rfl, _, _, rfl, rfl, ?_⟩
  refine ⟨_, rfl, ra, _, _, _, rfl, rfl, SqT.of hra, at_of (j := 1) rfl rfl, _, rfl, pa, _, _, _, rfl, rfl, SqT.of hpa, atI_nat ex, _, rfl, b, _, _, _, rfl, rfl, SqT.of hb, atI_nat ey, c, _, rfl, SqT.of hc, rfl, _, _, rfl, _, _, rfl, rfl, ?_⟩
  dsimp only [gName]
  generalize hmv : (R.pr p i).1 = mv
  generalize hlt : (R.pr p i).2 = later
  refine asg_cut (fun v H2 => v = .str (flS (if mv = .wait then i else 0)) ∧ H2 = H) (fun Q' hQ => ?_) (fun v H2 hv => ?_)
  · refine ⟨_, rfl, rfl, _, rfl, ite2 (fun e => ?_) (fun e => ?_)⟩
    · have e := mv_inj (b := .wait) (of_decide_eq_true e)
      refine ⟨_, rfl, aC, _, _, .str (flS i), rfl, rfl, T.cs _, atI_nat ?_, hQ _ _ ⟨by rw [if_pos e], rfl⟩⟩
      match i, hi with
      | 0, _ => rfl
      | 1, _ => rfl
      | 2, _ => rfl
    · have e : ¬ mv = .wait := fun z => e (by subst z; exact decide_eq_true rfl)
      exact hQ _ _ ⟨by rw [if_neg e]; rfl, rfl⟩
  obtain ⟨rfl, rfl⟩ := hv
  dsimp only [gName]
  refine ⟨_, rfl, ra, _, _, _, rfl, rfl, SqT.of hra, at_of (j := 0) rfl rfl, _, rfl, _, rfl, _, rfl, _, rfl, vm, R.ms, g, r, i, mv, rfl, hm, hl, hg, hi, fun H1 l zs s1 nl el tl => ⟨l, rfl, ⟨_, SqL.of el⟩, fun D hD => ?_⟩⟩
  refine lc_listT (fun x : Nat × Rm => some (encSR ((later, x.1, if mv = .wait then i else 0), x.2))) hD (SqL.of el) tl (Nat.lt_of_le_of_lt (goals_len _ _ _ _ _) (small100' (by omega))) (fun x y H4 R' hd s4 hx h0 h1 => ?_) (fun H4 acc s4 e t => ?_)
  · obtain ⟨ga, rfl, hga⟩ := gr_inv hx
    refine ⟨ga, _, rfl, SqT.of hga, rfl, _, _, rfl, _, _, rfl, rfl, rfl, ?_⟩
    refine ⟨_, rfl, _, rfl, _, rfl, small100 (by show 3 ≤ 1000000; decide), fun u hu => ⟨_, rfl, small100 (by show 2 ≤ 1000000; decide), fun v hv => ?_⟩⟩
    refine h1 _ _ _ ((same_upd hu).trans (same_upd hv)) rfl (.tup upd_same (.two ?_ (tp_R _)))
    exact (spot_mk (s := (later, y.1, if mv = .wait then i else 0)) upd_same).keep (.of (same_upd hv))
  · refine q H4 D acc (s1.trans s4) (s1.free hD) e ?_
    have ef : (goals R.ms g r i mv).filterMap (fun x => some (encSR ((later, x.1, if mv = .wait then i else 0), x.2))) = (stepsBy R (p, g, fl) r i).map encSR := by
      unfold stepsBy
      rw [List.map_map, hmv, hlt, List.filterMap_eq_map']
      rfl
    rw [ef] at t
    exact t
theorem stepsBy_len (R : Rule) (s : Spot) (r : Rm) (i : Nat) : (stepsBy R s r i).length ≤ R.ms.length + 1 := by
  unfold stepsBy
  rw [List.length_map]
  exact goals_len _ _ _ _ _
theorem coming_len (ms : List Int) (g fl : Nat) (r : Rm) : (coming ms g fl r).length ≤ 3 := by
  unfold coming
  refine Nat.le_trans (List.length_filter_le _ _) ?_
  rw [List.length_append, List.length_append]
  have h1 : (if g = ms.length ∨ isEnough r (some 1) = true then [0] else [] : List Nat).length ≤ 1 := by split <;> decide
  have h2 : (if g = ms.length then [] else [1] : List Nat).length ≤ 1 := by split <;> decide
  show _ + _ + 1 ≤ 3
  omega
/-! ### any_steps -/
def sp_steps (st : Rule → Spot → Rm → List (Spot × Rm)) : Sp := fun vs H Q _ => ∃ vr R vsp r, ∃ s : Spot, vs = [vr, vsp, vR r] ∧ Tp H vr (encRule R) ∧ R.WF ∧ R.ms.length ≤ 100 ∧ R.N ≤ 100 ∧ Tp H vsp (encSpot s) ∧ s.1 < R.N ∧ s.2.1 ≤ R.ms.length ∧ s.2.2 < 3 ∧ RetL Q H ((st R s r).map encSR)
theorem ok_any_steps (T : Txt K w mg aC aP fA fS) (c_coming : Cal P w K mg base 2 "coming" sp_coming) (c_steps_by : Cal P w K mg base 4 "steps_by" sp_steps_by) (D : Dfn K mg "any_steps" s_any_steps f fd ["rule", "spot", "room"]) : FnOk P w K mg base L2.CX0 5 f fd ["rule", "spot", "room"] (sp_steps anySteps) := by
  refine fnok_of D sc_any_steps (fun vs H Q E h => by obtain ⟨vr, R, vsp, r, s, rfl, _⟩ := h; rfl) (fun cdv A outer s H vs Q E hr h => ?_)
  obtain ⟨vr, R, vsp, r, sp, rfl, hR, wf, hl, hN, hs, hp, hg, hf, q⟩ := h
  obtain ⟨ra, vm, pa, xs, rfl, hra, hm, hpa, tpa⟩ := rule_inv hR
  refine ⟨_, (pss_cons (ps_set (i := 3) sc_any_steps.nd rfl (.inl rfl) (pe_lst pa_nil))
      (pss_cons (ps_for PassesOwn.never rfl (pi_list (pe_c c_coming hr (by decide) (by rfl) (pa_cons (pe_ix (r := rIxT K) ix_tup (pv 0) pe_int (fun _ _ => rfl)) (pa_cons (pv 1) (pa_cons (pv 2) pa_nil))))) (pg_name (i := 4) sc_any_steps.nd rfl (.inl rfl))
      (pss_one (ps_expr (pe_bm PySem.F.plainAttrs_list PySem.F.slot_list_extend PySem.F.type_list_extend mt_extend (pv 3) (pa_cons (pe_c c_steps_by hr (by decide) (by rfl) (pa_cons (pv 0) (pa_cons (pv 1) (pa_cons (pv 2) (pa_cons (pv 4) pa_nil))))) pa_nil)))))
      (pss_one (ps_ret (pv 3))))), ?_⟩
  refine ⟨Nat.zero_le _, fun o ho => ?_⟩
  have s0 := same_upd (o := .lst []) ho
  refine ⟨_, rfl, ra, _, _, _, rfl, rfl, SqT.of (s0 _ _ hra), at_of (j := 0) rfl rfl, _, rfl, _, rfl, vm, R.ms, vsp, r, sp, rfl, hm.keep (.of s0), hs.keep (.of s0), hf, fun H1 l zs s1 nl el tl => ⟨l, rfl, ⟨_, SqL.of el⟩, ?_⟩⟩
  have nlo : l ≠ o := fun e => by rw [e, upd_same] at nl; cases nl
  generalize hcs : coming R.ms sp.2.1 sp.2.2 r = cs at tl
  have hlen3 : cs.length ≤ 3 := by rw [← hcs]; exact coming_len _ _ _ _
  refine for_list (K := K) (a := l) (xs := zs) (fun i σ H2 => ∃ y4 acc, σ = [some (.ref ra), some vsp, some (vR r), some (.ref o), y4] ∧ Same H H2 ∧ H2 l = some (.lst zs) ∧ H2 o = some (.lst acc) ∧ acc.length ≤ i * 101 ∧ TpL H2 acc (((cs.take i).flatMap (stepsBy R sp r)).map encSR))
    ⟨none, [], rfl, s0.trans s1, el, s1 _ _ upd_same, Nat.zero_le _, .nil⟩ (fun i σ H2 _ hP => by obtain ⟨_, _, _, _, h, _⟩ := hP; exact SqL.of h) (fun i x σ H2 hx hP => ?_) (fun σ H2 hP => ?_)
  · obtain ⟨y4, acc, rfl, sm, hl2, ho2, hal, ht⟩ := hP
    obtain ⟨c, ec, rfl⟩ := nat_items tl hx
    have hic := (List.getElem?_eq_some_iff.mp ec).1
    have hc3 : c < 3 := coming_lt (by rw [hcs]; exact List.mem_of_getElem? ec)
    refine ⟨_, rfl, .inl ⟨rfl, _, SqL.of ho2⟩, _, rfl, _, rfl, _, rfl, _, rfl, _, R, vsp, r, c, sp, rfl, hR.keep (.of sm), wf, hl, hs.keep (.of sm), hp, hg, hc3, fun H3 b ws s3 nb eb tb => ?_⟩
    have ho3 := s3 _ _ ho2
    have hbl : ws.length ≤ 101 := by
      rw [tb.length, List.length_map]
      exact Nat.le_trans (stepsBy_len _ _ _ _) (by omega)
    refine ⟨o, b, acc, ws, rfl, rfl, ho3, eb, small100 (by omega), _, _, rfl, same_mut (sm.trans s3) ho, ?_, upd_same, by rw [List.length_append]; omega, ?_⟩
    · rw [upd_ne nlo]; exact s3 _ _ hl2
    · rw [List.take_add_one, ec, List.flatMap_append, List.map_append]
      refine TpL.keep (.lst ho3) ((ht.keep (.of s3)).app ?_)
      rw [Option.toList_some, List.flatMap_singleton]
      exact tb
  · obtain ⟨y4, acc, rfl, sm, hl2, ho2, hal, ht⟩ := hP
    have ez : zs.length = cs.length := by rw [tl.length, List.length_map]
    rw [ez, List.take_length] at ht
    refine ⟨_, rfl, q H2 o acc sm ho ho2 ?_⟩
    unfold anySteps
    rw [hcs]
    exact ht
/-! ### move_behind_waits -/
def sp_move_behind_waits : Sp := fun vs H Q _ => ∃ vr R p i, vs = [vr, .int (p : Nat), .int (i : Nat)] ∧ Tp H vr (encRule R) ∧ R.WF ∧ R.N ≤ 100 ∧ p < R.N ∧ i < 3 ∧ (moveBehind R i R.N p = none → Q .non H) ∧ (∀ m, moveBehind R i R.N p = some m → RetT Q H (encPair m))
theorem ok_move_behind_waits (T : Txt K w mg aC aP fA fS) (D : Dfn K mg "move_behind_waits" s_move_behind_waits f fd ["rule", "phase", "i"]) : FnOk P w K mg base L2.CX0 1 f fd ["rule", "phase", "i"] sp_move_behind_waits := by
  refine fnok_of D sc_move_behind_waits (fun vs H Q E h => by obtain ⟨vr, R, p, i, rfl, _⟩ := h; rfl) (fun cdv A outer s H vs Q E hr h => ?_)
  obtain ⟨vr, R, p, i, rfl, hR, wf, hN, hp, hi, q0, q1⟩ := h
  obtain ⟨ra, vm, pa, xs, rfl, hra, hm, hpa, tpa⟩ := rule_inv hR
  refine ⟨_, (pss_cons (ps_for PassesOwn.never rfl (pi_range1 (by rfl) T.range (pa_cons (pe_callB (r := rLen K) cLen (by rfl) T.len (by decide +kernel) (pa_cons (pe_ix (r := rIxT K) ix_tup (pv 0) pe_int (fun _ _ => rfl)) pa_nil)) pa_nil)) (pg_name (i := 3) sc_move_behind_waits.nd rfl (.inl rfl))
      (pss_cons (ps_asg (pe_ix (r := rIxT K) ix_tup (pe_ix (r := rIxT K) ix_tup (pe_ix (r := rIxT K) ix_tup (pv 0) pe_int (fun _ _ => rfl)) (pv 1) (fun _ _ => rfl)) (pv 2) (fun _ _ => rfl)) (pg_tup rfl (pgs_cons (pg_name (i := 4) sc_move_behind_waits.nd rfl (.inl rfl)) (pgs_cons (pg_name (i := 5) sc_move_behind_waits.nd rfl (.inl rfl)) pgs_nil))))
      (pss_cons (ps_if (pt_cmpR (op_ne) (pv 4) pe_str (nomark _)) (pss_one (ps_ret (pe_tup (pa_cons (pv 4) (pa_cons (pv 5) pa_nil))))) pss_nil)
      (pss_one (ps_set (i := 1) sc_move_behind_waits.nd rfl (.inl rfl) (pv 5))))))
      (pss_one (ps_ret pe_non))), ?_⟩
  have exs : xs.length = R.N := by rw [tpa.length, List.length_map]; rfl
  refine ⟨_, rfl, ra, _, _, _, rfl, rfl, SqT.of hra, at_of (j := 1) rfl rfl, pa, _, rfl, .inr (SqT.of hpa), _, rfl, by omega, by omega, ?_⟩
  have en : (((xs.length : Nat) : Int)).toNat = R.N := by rw [exs]; omega
  refine for_range (fun k σ H1 => ∃ y3 y4 y5 p', σ = [some (.ref ra), some (.int (p' : Nat)), some (.int (i : Nat)), y3, y4, y5] ∧ H1 = H ∧ p' < R.N ∧ moveBehind R i (R.N - k) p' = moveBehind R i R.N p)
    ⟨none, none, none, p, rfl, rfl, hp, rfl⟩ (fun k σ H1 hk hP => ?_) (fun σ H1 hP => ?_)
  · obtain ⟨y3, y4, y5, p', rfl, rfl, hp', em⟩ := hP
    rw [en] at hk
    obtain ⟨b, ys, c, ex, hb, ey, hc⟩ := pr_at wf hp' hi tpa
    have eN : R.N - k = (R.N - (k + 1)) + 1 := by omega
    rw [eN, mb_succ] at em
    refine ⟨_, rfl, ra, _, _, _, rfl, rfl, SqT.of hra, at_of (j := 1) rfl rfl, _, rfl, pa, _, _, _, rfl, rfl, SqT.of hpa, atI_nat ex, _, rfl, b, _, _, _, rfl, rfl, SqT.of hb, atI_nat ey, c, _, rfl, SqT.of hc, rfl, _, _, rfl, _, _, rfl, rfl, ?_⟩
    dsimp only [gName]
    refine if_one ((R.pr p' i).1 ≠ .wait) (fun Q' hQ => ⟨_, rfl, rfl, _, rfl, ?_⟩) (fun h => ?_) (fun h => ?_)
    · have ed : (!decide (V.str (mvS (R.pr p' i).1) = V.str (mvS .wait))) = decide ((R.pr p' i).1 ≠ .wait) := by
        rw [dec_mv]
        by_cases h : (R.pr p' i).1 = .wait
        · rw [decide_eq_true h, decide_eq_false (fun z => z h)]; rfl
        · rw [decide_eq_false h, decide_eq_true h]; rfl
      rw [← ed] at hQ
      exact hQ
    · rw [if_neg h] at em
      refine ⟨_, rfl, _, rfl, small100 (by show 2 ≤ 1000000; decide), fun u hu => ?_⟩
      exact q1 _ em.symm _ _ (same_upd hu) (.tup upd_same (.two (.str _) (.int _)))
    · have h : (R.pr p' i).1 = .wait := Classical.byContradiction h
      rw [if_pos h] at em
      exact ⟨_, rfl, _, _, _, (R.pr p' i).2, rfl, rfl, pr_lt wf hp' hi, em⟩
  · obtain ⟨y3, y4, y5, p', rfl, rfl, hp', em⟩ := hP
    rw [en, Nat.sub_self] at em
    exact q0 em.symm
end
end K24
namespace K24
open PySem PySem.Spec PyProof.Rows L2
theorem steadyBy_len (R : Rule) (s : Spot) (r : Rm) (i : Nat) : (steadyBy R s r i).length ≤ R.ms.length + 1 := by
  unfold steadyBy
  split
  · exact Nat.zero_le _
  · rw [List.length_map]; exact goals_len _ _ _ _ _
theorem steadyCases_len (ms : List Int) (g fl : Nat) (r : Rm) : (steadyCases ms g fl r).length ≤ 3 := Nat.le_trans (List.length_filter_le _ _) (coming_len _ _ _ _)
section
variable {P : Program} {w : World} {K : PySem.W.Frag} {mg : Str → Option Value} {base : Heap} {aC aP fA fS : Addr} {f : Addr} {fd : FuncData}
/-! ### steady_cases -/
def sp_steady_cases : Sp := fun vs H Q _ => ∃ vm ms vs' r, ∃ s : Spot, vs = [vm, vs', vR r] ∧ Tp H vm (encMarks ms) ∧ Tp H vs' (encSpot s) ∧ s.2.2 < 3 ∧ RetL Q H ((steadyCases ms s.2.1 s.2.2 r).map encI)
theorem ok_steady_cases (T : Txt K w mg aC aP fA fS) (c_coming : Cal P w K mg base 2 "coming" sp_coming) (D : Dfn K mg "steady_cases" s_steady_cases f fd ["marks", "spot", "room"]) : FnOk P w K mg base L2.CX0 3 f fd ["marks", "spot", "room"] sp_steady_cases := by
  refine fnok_of D sc_steady_cases (fun vs H Q E h => by obtain ⟨vm, ms, vs', r, s, rfl, _⟩ := h; rfl) (fun cdv A outer s H vs Q E hr h => ?_)
  obtain ⟨vm, ms, vsp, r, ⟨p, g, fl⟩, rfl, hm, hs, hfl, q⟩ := h
  obtain ⟨a, rfl, ha⟩ := marks_inv hm
  obtain ⟨sa, rfl, hsa⟩ := spot_inv hs
  refine ⟨_, (pss_one (ps_ret (pe_lc (own := [("i", 3)]) (g := gName 3) rfl sc_steady_cases.nd (pi_list (pe_c c_coming hr (by decide) (by rfl) (pa_cons (pv 0) (pa_cons (pv 1) (pa_cons (pv 2) pa_nil))))) (blkOk_by (own := [("i", 3)]) (N := N_steady_cases) (sc := defScope s_steady_cases) (by decide +kernel)) (fun _ _ _ _ _ => (pg_name (i := 3) sc_steady_cases.nd rfl (.inl rfl))) (fun _ _ _ _ _ => (pts_one (PW.pt (pw_or (pt_cmpR op_lt (pv 3) pe_int (nomark _)) (pw_or1 (pt_cmpR op_lt (pe_ix (r := rIxT K) ix_tup (pv 1) pe_int (fun _ _ => rfl)) (pe_callB (r := rLen K) cLen (by rfl) T.len (by decide +kernel) (pa_cons (pv 0) pa_nil)) (nomark _))))))) (fun _ _ _ _ _ => (pv 3))))), ?_⟩
  refine ⟨_, rfl, _, rfl, _, rfl, _, ms, _, r, (p, g, fl), rfl, hm, hs, hfl, fun H1 l zs s1 nl el tl => ⟨l, rfl, ⟨_, SqL.of el⟩, fun D hD => ?_⟩⟩
  refine lc_listT (fun i : Nat => if i < 2 ∨ g < ms.length then some (encI i) else none) hD (SqL.of el) tl (Nat.lt_of_le_of_lt (coming_len _ _ _ _) (small100' (by omega))) (fun x i H4 R hd s4 hx h0 h1 => ?_) (fun H4 acc s4 e t => ?_)
  · have hx := hx.int_inv
    subst hx
    have s14 := s1.trans s4
    refine ⟨rfl, _, rfl, _, _, rfl, rfl, _, rfl, ite2 (fun e => ?_) (fun e => ?_)⟩
    · have e : (i : Int) < 2 := of_decide_eq_true e
      exact ⟨_, rfl, h1 _ (encI i) _ (Same.refl _) (if_pos (.inl (by omega))) (.int _)⟩
    · have e : ¬ (i : Int) < 2 := fun z => e (decide_eq_true z)
      refine ⟨_, rfl, sa, _, _, _, rfl, rfl, SqT.of (s14 _ _ hsa), at_of (j := 1) rfl rfl, _, rfl, a, _, rfl, .inr (SqT.of (s14 _ _ ha)), _, _, rfl, rfl, _, rfl, ite2 (fun e2 => ?_) (fun e2 => ?_)⟩
      · have e2 := of_decide_eq_true e2
        rw [List.length_map] at e2
        have e2 : (g : Int) < (ms.length : Nat) := e2
        exact ⟨_, rfl, h1 _ (encI i) _ (Same.refl _) (if_pos (.inr (by omega))) (.int _)⟩
      · have e2 := fun z => e2 (decide_eq_true z)
        rw [List.length_map] at e2
        have e2 : ¬ (g : Int) < (ms.length : Nat) := e2
        exact h0 _ (Same.refl _) (if_neg (by omega))
  · refine q H4 D acc (s1.trans s4) (s1.free hD) e ?_
    rw [filterMap_if] at t
    exact t
/-! ### steady_steps -/
theorem ok_steady_steps (T : Txt K w mg aC aP fA fS) (c_steady_cases : Cal P w K mg base 3 "steady_cases" sp_steady_cases) (c_goals : Cal P w K mg base 3 "goals" sp_goals) (c_move_behind_waits : Cal P w K mg base 1 "move_behind_waits" sp_move_behind_waits)
    (D : Dfn K mg "steady_steps" s_steady_steps f fd ["rule", "spot", "room"]) : FnOk P w K mg base L2.CX0 5 f fd ["rule", "spot", "room"] (sp_steps steadySteps) := by
  refine fnok_of D sc_steady_steps (fun vs H Q E h => by obtain ⟨vr, R, vsp, r, s, rfl, _⟩ := h; rfl) (fun cdv A outer s H vs Q E hr h => ?_)
  obtain ⟨vr, R, vsp, r, ⟨p, g, fl⟩, rfl, hR, wf, hl, hN, hs, hp, hg, hf, q⟩ := h
  obtain ⟨ra, vm, pa, xs, rfl, hra, hm, hpa, tpa⟩ := rule_inv hR
  obtain ⟨sa, rfl, hsa⟩ := spot_inv hs
  refine ⟨_, (pss_cons (ps_set (i := 3) sc_steady_steps.nd rfl (.inl rfl) (pe_lst pa_nil))
      (pss_cons (ps_for PassesOwn.never rfl (pi_list (pe_c c_steady_cases hr (by decide) (by rfl) (pa_cons (pe_ix (r := rIxT K) ix_tup (pv 0) pe_int (fun _ _ => rfl)) (pa_cons (pv 1) (pa_cons (pv 2) pa_nil))))) (pg_name (i := 4) sc_steady_steps.nd rfl (.inl rfl))
      (pss_cons (ps_set (i := 5) sc_steady_steps.nd rfl (.inr rfl) (pe_c c_move_behind_waits hr (by decide) (by rfl) (pa_cons (pv 0) (pa_cons (pe_ix (r := rIxT K) ix_tup (pv 1) pe_int (fun _ _ => rfl)) (pa_cons (pv 4) pa_nil)))))
      (pss_one (ps_if (pt_cmpR op_notN (pv 5) pe_non (nomark _)) (pss_one (ps_expr (pe_bm PySem.F.plainAttrs_list PySem.F.slot_list_extend PySem.F.type_list_extend mt_extend (pv 3) (pa_cons (pe_lc (own := [("goal", 6), ("late", 7)]) (g := gTup K 2 (gCons (gName 6) (gCons (gName 7) gNil))) rfl sc_steady_steps.nd (pi_list (pe_c c_goals hr (by decide) (by rfl) (pa_cons (pe_ix (r := rIxT K) ix_tup (pv 0) pe_int (fun _ _ => rfl)) (pa_cons (pe_ix (r := rIxT K) ix_tup (pv 1) pe_int (fun _ _ => rfl)) (pa_cons (pv 2) (pa_cons (pv 4) (pa_cons (pe_ix (r := rIxT K) ix_tup (pv 5) pe_int (fun _ _ => rfl)) pa_nil))))))) (blkOk_by (own := [("goal", 6), ("late", 7)]) (N := N_steady_steps) (sc := defScope s_steady_steps) (by decide +kernel)) (fun _ _ _ _ _ => (pg_tup rfl (pgs_cons (pg_name (i := 6) sc_steady_steps.nd rfl (.inl rfl)) (pgs_cons (pg_name (i := 7) sc_steady_steps.nd rfl (.inl rfl)) pgs_nil)))) (fun _ _ _ _ _ => pts_nil) (fun _ _ _ _ _ => (pe_tup (pa_cons (pe_tup (pa_cons (pe_ix (r := rIxT K) ix_tup (pv 5) pe_int (fun _ _ => rfl)) (pa_cons (pv 6) (pa_cons pe_str pa_nil)))) (pa_cons (pv 7) pa_nil))))) pa_nil)))) pss_nil))))
      (pss_one (ps_ret (pv 3))))), ?_⟩
  refine ⟨Nat.zero_le _, fun o ho => ?_⟩
  have s0 := same_upd (o := .lst []) ho
  refine ⟨_, rfl, ra, _, _, _, rfl, rfl, SqT.of (s0 _ _ hra), at_of (j := 0) rfl rfl, _, rfl, _, rfl, vm, R.ms, _, r, (p, g, fl), rfl, hm.keep (.of s0), hs.keep (.of s0), hf, fun H1 l zs s1 nl el tl => ⟨l, rfl, ⟨_, SqL.of el⟩, ?_⟩⟩
  have nlo : l ≠ o := fun e => by rw [e, upd_same] at nl; cases nl
  generalize hcs : steadyCases R.ms (p, g, fl).2.1 (p, g, fl).2.2 r = cs at tl
  have hlen3 : cs.length ≤ 3 := by rw [← hcs]; exact steadyCases_len _ _ _ _
  refine for_list (K := K) (a := l) (xs := zs) (fun i σ H2 => ∃ y4 y5 y6 y7 acc, σ = [some (.ref ra), some (.ref sa), some (vR r), some (.ref o), y4, y5, y6, y7] ∧ Same H H2 ∧ H2 l = some (.lst zs) ∧ H2 o = some (.lst acc) ∧ acc.length ≤ i * 101 ∧ TpL H2 acc (((cs.take i).flatMap (steadyBy R (p, g, fl) r)).map encSR))
    ⟨none, none, none, none, [], rfl, s0.trans s1, el, s1 _ _ upd_same, Nat.zero_le _, .nil⟩ (fun i σ H2 _ hP => by obtain ⟨_, _, _, _, _, _, _, h, _⟩ := hP; exact SqL.of h) (fun i x σ H2 hx hP => ?_) (fun σ H2 hP => ?_)
  · obtain ⟨y4, y5, y6, y7, acc, rfl, sm, hl2, ho2, hal, ht⟩ := hP
    obtain ⟨c, ec, rfl⟩ := nat_items tl hx
    have hic := (List.getElem?_eq_some_iff.mp ec).1
    have hc3 : c < 3 := by
      have hm : c ∈ steadyCases R.ms (p, g, fl).2.1 (p, g, fl).2.2 r := by rw [hcs]; exact List.mem_of_getElem? ec
      exact coming_lt (mem_steadyCases.mp hm).1
    have et : ((cs.take (i + 1)).flatMap (steadyBy R (p, g, fl) r)) = ((cs.take i).flatMap (steadyBy R (p, g, fl) r)) ++ steadyBy R (p, g, fl) r c := by
      rw [List.take_add_one, ec, List.flatMap_append, Option.toList_some, List.flatMap_singleton]
    refine ⟨_, rfl, _, rfl, sa, _, _, _, rfl, rfl, SqT.of (sm _ _ hsa), at_of (j := 0) rfl rfl, _, rfl, _, R, p, c, rfl, hR.keep (.of sm), wf, hN, hp, hc3, fun em => ?_, fun m em H3 v s3 tv => ?_⟩
    · have eb : steadyBy R (p, g, fl) r c = [] := by unfold steadyBy; rw [em]
      refine ⟨.non, rfl, rfl, false, rfl, ?_⟩
      refine ⟨_, _, _, _, acc, rfl, sm, hl2, ho2, by omega, ?_⟩
      rw [et, eb, List.append_nil]; exact ht
    · have eb : steadyBy R (p, g, fl) r c = (goals R.ms g r c m.1).map fun x => ((m.2, x.1, 0), x.2) := by unfold steadyBy; rw [em]
      obtain ⟨pb, rfl, hpb⟩ := pair_inv tv
      have sm3 := sm.trans s3
      have ho3 := s3 _ _ ho2
      refine ⟨_, rfl, rfl, true, rfl, ?_⟩
      refine ⟨_, rfl, .inl ⟨rfl, _, SqL.of ho3⟩, _, rfl, ra, _, _, _, rfl, rfl, SqT.of (sm3 _ _ hra), at_of (j := 0) rfl rfl, _, rfl, sa, _, _, _, rfl, rfl, SqT.of (sm3 _ _ hsa), at_of (j := 1) rfl rfl, _, rfl, _, rfl, _, rfl, pb, _, _, _, rfl, rfl, SqT.of hpb, at_of (j := 0) rfl rfl,
        vm, R.ms, g, r, c, m.1, rfl, hm.keep (.of sm3), hl, hg, hc3, fun H4 l2 ws s4 n4 e4 t4 => ⟨l2, rfl, ⟨_, SqL.of e4⟩, fun D4 hD4 => ?_⟩⟩
      refine lc_listT (fun x : Nat × Rm => some (encSR ((m.2, x.1, 0), x.2))) hD4 (SqL.of e4) t4 (Nat.lt_of_le_of_lt (goals_len _ _ _ _ _) (small100' (by omega))) (fun x y H5 R' hd s5 hx5 h0 h1 => ?_) (fun H5 acc5 s5 e5 t5 => ?_)
      · obtain ⟨ga, rfl, hga⟩ := gr_inv hx5
        refine ⟨ga, _, rfl, SqT.of hga, rfl, _, _, rfl, _, _, rfl, rfl, rfl, ?_⟩
        have hpb5 := s5 _ _ (s4 _ _ hpb)
        refine ⟨_, rfl, pb, _, _, _, rfl, rfl, SqT.of hpb5, at_of (j := 1) rfl rfl, _, rfl, small100 (by show 3 ≤ 1000000; decide), fun u hu => ⟨_, rfl, small100 (by show 2 ≤ 1000000; decide), fun v hv => ?_⟩⟩
        refine h1 _ _ _ ((same_upd hu).trans (same_upd hv)) rfl (.tup upd_same (.two ?_ (tp_R _)))
        exact (spot_mk (s := (m.2, y.1, 0)) upd_same).keep (.of (same_upd hv))
      · have ho5 := s5 _ _ (s4 _ _ ho3)
        have ef : (goals R.ms g r c m.1).filterMap (fun x => some (encSR ((m.2, x.1, 0), x.2))) = (steadyBy R (p, g, fl) r c).map encSR := by
          rw [eb, List.map_map, List.filterMap_eq_map']; rfl
        rw [ef] at t5
        have hbl : acc5.length ≤ 101 := by
          rw [t5.length, List.length_map]
          exact Nat.le_trans (steadyBy_len _ _ _ _) (by omega)
        refine ⟨o, D4, acc, acc5, rfl, rfl, ho5, e5, small100 (by omega), _, _, _, _, _, rfl, same_mut (sm3.trans (s4.trans s5)) ho, ?_, upd_same, by rw [List.length_append]; omega, ?_⟩
        · rw [upd_ne nlo]; exact s5 _ _ (s4 _ _ (s3 _ _ hl2))
        · rw [et, List.map_append]
          exact TpL.keep (.lst ho5) ((ht.keep (.of (s3.trans (s4.trans s5)))).app t5)
  · obtain ⟨y4, y5, y6, y7, acc, rfl, sm, hl2, ho2, hal, ht⟩ := hP
    have ez : zs.length = cs.length := by rw [tl.length, List.length_map]
    rw [ez, List.take_length] at ht
    refine ⟨_, rfl, q H2 o acc sm ho ho2 ?_⟩
    unfold steadySteps
    rw [hcs]
    exact ht
/-! ### reached -/
def spotK (s : Spot) : List Key := [.inl (s.1 : Nat), .inl (s.2.1 : Nat), .inr (flS s.2.2)]
def encF (x : Spot × Rm) : List Key × V := (spotK x.1, vR x.2)
theorem fl_inj {a b : Nat} (ha : a < 3) (hb : b < 3) (h : flS a = flS b) : a = b := by
  match a, b, ha, hb with
  | 0, 0, _, _ => rfl
  | 1, 1, _, _ => rfl
  | 2, 2, _, _ => rfl
  | 0, 1, _, _ => exact absurd h (by decide +kernel)
  | 0, 2, _, _ => exact absurd h (by decide +kernel)
  | 1, 0, _, _ => exact absurd h (by decide +kernel)
  | 1, 2, _, _ => exact absurd h (by decide +kernel)
  | 2, 0, _, _ => exact absurd h (by decide +kernel)
  | 2, 1, _, _ => exact absurd h (by decide +kernel)
theorem spotK_inj {a b : Spot} (ha : a.2.2 < 3) (hb : b.2.2 < 3) (h : spotK a = spotK b) : a = b := by
  obtain ⟨p, g, f⟩ := a
  obtain ⟨p', g', f'⟩ := b
  unfold spotK at h
  injection h with h1 h
  injection h with h2 h
  injection h with h3 _
  have e1 : ((p : Nat) : Int) = (p' : Nat) := Sum.inl.inj h1
  have e2 : ((g : Nat) : Int) = (g' : Nat) := Sum.inl.inj h2
  have e3 := fl_inj ha hb (Sum.inr.inj h3)
  have e3 : f = f' := e3
  have e1 : p = p' := by omega
  have e2 : g = g' := by omega
  rw [e1, e2, e3]
theorem valV_F {F : List (Spot × Rm)} (hF : ∀ x ∈ F, x.1.2.2 < 3) {s : Spot} (hs : s.2.2 < 3) : valV (F.map encF) (spotK s) = (look F s).map vR := by
  induction F with
  | nil => rfl
  | cons x F ih =>
    have ih := ih fun y hy => hF y (List.mem_cons_of_mem _ hy)
    unfold look
    rw [List.map_cons, List.find?_cons]
    by_cases e : x.1 = s
    · rw [decide_eq_true e, valV_pos (show (encF x).1 = spotK s by rw [← e]; rfl)]; rfl
    · rw [decide_eq_false e, valV_neg (fun z => e (spotK_inj (hF x List.mem_cons_self) hs z)), ih]; rfl
theorem putK_F {F : List (Spot × Rm)} (hF : ∀ x ∈ F, x.1.2.2 < 3) {s : Spot} (hs : s.2.2 < 3) (r : Rm) : putK (F.map encF) (spotK s) (vR r) = (putF F s r).map encF := by
  have ea : ((F.map encF).any fun kv => decide (kv.1 = spotK s)) = (F.any fun x => decide (x.1 = s)) := by
    rw [List.any_map]
    refine Bool.eq_iff_iff.mpr ?_
    rw [List.any_eq_true, List.any_eq_true]
    constructor
    · rintro ⟨x, hx, e⟩
      exact ⟨x, hx, decide_eq_true (spotK_inj (hF x hx) hs (of_decide_eq_true e))⟩
    · rintro ⟨x, hx, e⟩
      refine ⟨x, hx, decide_eq_true ?_⟩
      show spotK x.1 = spotK s
      rw [of_decide_eq_true e]
  unfold putK putF
  rw [ea]
  split
  · rw [List.map_map, List.map_map]
    refine List.map_congr_left fun x hx => ?_
    show (if (encF x).1 = spotK s then ((encF x).1, vR r) else encF x) = encF (if x.1 = s then (x.1, r) else x)
    by_cases e : x.1 = s
    · rw [if_pos e, if_pos (show (encF x).1 = spotK s by rw [← e]; rfl)]; rfl
    · rw [if_neg e, if_neg (show ¬ (encF x).1 = spotK s from fun z => e (spotK_inj (hF x hx) hs z))]
  · rw [List.map_append]; rfl
theorem F_keys {F : List (Spot × Rm)} (hF : ∀ x ∈ F, x.1.2.2 < 3) (nd : (F.map (·.1)).Nodup) : ((F.map encF).map (·.1)).Nodup := by
  rw [List.map_map, List.Nodup, List.pairwise_map]
  rw [List.Nodup, List.pairwise_map] at nd
  refine List.Pairwise.imp_of_mem ?_ nd
  intro a b ha hb hab e
  exact hab (spotK_inj (hF a ha) (hF b hb) e)
structure Small (R : Rule) (B : Int) : Prop where
  wf : R.WF
  n : R.ms.length ≤ 10
  N : R.N ≤ 10
  bd : Bd R.ms B
  b0 : 0 ≤ B
  b1 : B ≤ 100
theorem Small.le {R : Rule} {B : Int} (h : Small R B) : R.N * ((R.ms.length + 1) * 3) ≤ 330 := by
  have h1 := h.n
  have h2 := h.N
  exact Nat.le_trans (Nat.mul_le_mul h2 (Nat.mul_le_mul (show R.ms.length + 1 ≤ 11 by omega) (Nat.le_refl 3))) (by decide)
theorem Small.weight {R : Rule} {B : Int} (h : Small R B) {F : List (Spot × Rm)} (dF : ∀ x ∈ F, Dm R B x) : weight R B F ≤ 34000 := by
  refine Nat.le_trans (weight_le R F dF) ?_
  have h1 := h.le
  have h2 := h.b1
  exact Nat.le_trans (Nat.mul_le_mul h1 (show (B + 2).toNat ≤ 102 by omega)) (by decide)
def sp_reached (fN : Addr) (st : Rule → Spot → Rm → List (Spot × Rm)) : Sp := fun vs H Q _ => ∃ vr l R xs B starts, vs = [vr, .ref l, .ref fN] ∧ Tp H vr (encRule R) ∧ Small R B ∧ H l = some (.lst xs) ∧ TpL H xs (starts.map encSR) ∧ (starts.map (·.1)).Nodup ∧
  (∀ x ∈ starts, Dm R B x) ∧ (∀ x y : Spot × Rm, Dm R B x → y ∈ st R x.1 x.2 → Dm R B y) ∧ (∀ x : Spot × Rm, (st R x.1 x.2).length ≤ 1000) ∧
  ∀ H' d F, Same H H' → H d = none → H' d = some (.dT (F.map encF)) → Fix (st R) starts F → (∀ x ∈ F, Dm R B x) → Q (.ref d) H'
theorem pairs_of_sr {H : Hp} : ∀ {xs : List V} {F : List (Spot × Rm)}, TpL H xs (F.map encSR) → ∃ ts : List Addr, xs = ts.map V.ref ∧ IsPairs H ts (F.map encF)
  | _, [], h => by cases h; exact ⟨[], rfl, .nil⟩
  | _, x :: F, h => by
    cases h with
    | cons h1 h2 =>
      obtain ⟨a, b, rfl, ha, hb⟩ := sr_inv h1
      obtain ⟨ts, rfl, hp⟩ := pairs_of_sr h2
      exact ⟨a :: ts, rfl, .cons ⟨b, ha, hb⟩ hp⟩
theorem ok_reached {fN : Addr} {fdN : FuncData} {st : Rule → Spot → Rm → List (Spot × Rm)} (T : Txt K w mg aC aP fA fS) (c_is_enough : Cal P w K mg base 1 "is_enough" sp_is_enough) (G : FnOk P w K mg base L2.CX0 5 fN fdN ["rule", "spot", "room"] (sp_steps st)) (kp : PySem.W.keepIn K (.ref fN) = true) (b : Binds K fdN ["rule", "spot", "room"] [])
    (D : Dfn K mg "reached" s_reached f fd ["rule", "starts", "steps"]) : FnOk P w K mg base L2.CX0 6 f fd ["rule", "starts", "steps"] (sp_reached fN st) := by
  refine fnok_of D sc_reached (fun vs H Q E h => by obtain ⟨vr, l, R, xs, B, starts, rfl, _⟩ := h; rfl) (fun cdv A outer s H vs Q E hr h => ?_)
  obtain ⟨vr, l, R, xs, B, starts, rfl, hR, sm, hl, tl, nd, dS, dSt, hlen, q⟩ := h
  have hr2 := hr
  have hu := hu_of hr
  refine ⟨_, (pss_cons (ps_set (i := 3) sc_reached.nd rfl (.inl rfl) (pe_callTy (call_dictT rfl hr.units) (by rfl) T.dict (by decide +kernel) (pa_cons (pv 1) pa_nil)))
      (pss_cons (ps_set (i := 4) sc_reached.nd rfl (.inl rfl) (pe_callTy call_list_of (by rfl) T.list (by decide +kernel) (pa_cons (pv 1) pa_nil)))
      (pss_cons (ps_while PassesOwn.never (pt_cmpR op_gt (pe_callB (r := rLen K) cLen (by rfl) T.len (by decide +kernel) (pa_cons (pv 4) pa_nil)) pe_int (nomark _)) (pss_cons (ps_asg (pe_bm0 PySem.F.plainAttrs_list PySem.F.slot_list_pop PySem.F.type_list_pop mt_pop (pv 4)) (pg_tup rfl (pgs_cons (pg_name (i := 5) sc_reached.nd rfl (.inl rfl)) (pgs_cons (pg_name (i := 6) sc_reached.nd rfl (.inl rfl)) pgs_nil))))
      (pss_one (ps_for PassesOwn.never rfl (pi_list (pe_callL (i := 2) G hr2 rfl (.inl rfl) kp b .nil pass0 (pa_cons (pv 0) (pa_cons (pv 5) (pa_cons (pv 6) pa_nil))))) (pg_tup rfl (pgs_cons (pg_name (i := 7) sc_reached.nd rfl (.inl rfl)) (pgs_cons (pg_name (i := 8) sc_reached.nd rfl (.inl rfl)) pgs_nil)))
      (pss_one (ps_if (PW.pt (pw_or (pt_cmp (pc_dnotin hu (pv 7) (pv 3))) (pw_or1 (pt_not (pt_val (pe_c c_is_enough hr (by decide) (by rfl) (pa_cons (pe_dget hu (pv 3) (pv 7) (fun _ _ => rfl)) (pa_cons (pv 8) pa_nil)))))))) (pss_cons (ps_dput hu (pv 3) (pv 7) (pv 8) rfl)
      (pss_one (ps_expr (pe_bm PySem.F.plainAttrs_list PySem.F.slot_list_append PySem.F.type_list_append mt_append (pv 4) (pa_cons (pe_tup (pa_cons (pv 7) (pa_cons (pv 8) pa_nil))) pa_nil))))) pss_nil))))))
      (pss_one (ps_ret (pv 3)))))), ?_⟩
  obtain ⟨ts, rfl, hp⟩ := pairs_of_sr tl
  have hf3 : ∀ {F : List (Spot × Rm)}, (∀ x ∈ F, Dm R B x) → ∀ x ∈ F, x.1.2.2 < 3 := fun h x hx => (h x hx).f
  -- found = dict(starts); left = list(starts)
  refine ⟨_, rfl, l, ts, starts.map encF, rfl, SqL.of hl, hp, F_keys (hf3 dS) nd, fun d hd => ?_⟩
  have s1 := same_upd (o := .dT (starts.map encF)) hd
  refine ⟨_, rfl, l, _, rfl, .inl (SqL.of (s1 _ _ hl)), fun o ho => ?_⟩
  have s2 := same_upd (o := .lst (ts.map V.ref)) ho
  have ndo : d ≠ o := fun e => by rw [← e, upd_same] at ho; cases ho
  have ho0 : H o = none := s1.free ho
  have hw0 := sm.weight dS
  have hsl : starts.length ≤ 330 := Nat.le_trans (F_len nd dS) sm.le
  -- while len(left) > 0
  refine ⟨fun m σ H2 => ∃ y5 y6 y7 y8 F L ls, σ = [some vr, some (.ref l), some (.ref fN), some (.ref d), some (.ref o), y5, y6, y7, y8] ∧ Same H H2 ∧ H2 d = some (.dT (F.map encF)) ∧ H2 o = some (.lst ls) ∧ TpL H2 ls (L.map encSR) ∧ Wk (st R) starts (Dm R B) F L none ∧ m = 2 * weight R B F + L.length ∧ m ≤ 70000,
    ⟨2 * weight R B starts + starts.length, none, none, none, none, starts, starts, _, rfl, s1.trans s2, s2 _ _ upd_same, upd_same, tl.keep (.of (s1.trans s2)), Wk.init nd dS, rfl, by omega⟩, fun m σ H2 hW => ?_⟩
  obtain ⟨y5, y6, y7, y8, F, L, ls, rfl, sH, hdF, hoL, tL, wk, hm, hmb⟩ := hW
  refine ⟨_, rfl, o, _, rfl, .inl (SqL.of hoL), _, _, rfl, rfl, _, rfl, ite2 (fun e => ?_) (fun e => ?_)⟩
  · -- spot, room = left.pop()
    have e : (0 : Int) < (ls.length : Nat) := of_decide_eq_true e
    have hLl : ls.length = L.length := by rw [tL.length, List.length_map]
    obtain ⟨L', x, eL⟩ : ∃ L' x, L = L' ++ [x] := ⟨L.dropLast, L.getLast (fun z => by rw [z, List.length_nil] at hLl; omega), (List.dropLast_concat_getLast _).symm⟩
    subst eL
    obtain ⟨v, hv, tv⟩ := tL.get (i := L'.length) (d := encSR x) (by rw [List.map_append, List.getElem?_append_right (by simp)]; simp)
    obtain ⟨pa, sa, rfl, hpa, hsa⟩ := sr_inv tv
    have tL' : TpL H2 ls.dropLast (L'.map encSR) := by
      have := tL.dropLast
      rw [List.map_append, List.map_singleton, List.dropLast_concat] at this
      exact this
    have kto : L2.Mut (H2 o) := by rw [hoL]; trivial
    refine ⟨fun σ' H' => ∃ m', m' < m ∧ ∃ y5 y6 y7 y8 F L ls, σ' = [some vr, some (.ref l), some (.ref fN), some (.ref d), some (.ref o), y5, y6, y7, y8] ∧ Same H H' ∧ H' d = some (.dT (F.map encF)) ∧ H' o = some (.lst ls) ∧ TpL H' ls (L.map encSR) ∧ Wk (st R) starts (Dm R B) F L none ∧ m' = 2 * weight R B F + L.length ∧ m' ≤ 70000, fun σ' H' h => h, ?_⟩
    have hlast : ls[ls.length - 1]? = some (.ref pa) := by
      rw [hLl, List.length_append, List.length_singleton, Nat.add_sub_cancel]; exact hv
    have s3 : Same H (upd H2 o (.lst ls.dropLast)) := same_mut sH ho0
    have k3 : KT H2 (upd H2 o (.lst ls.dropLast)) := .lst hoL
    have hdx := wk.dL x (List.mem_append_right _ List.mem_cons_self)
    have hrx := wk.sL x (List.mem_append_right _ List.mem_cons_self)
    refine ⟨_, rfl, .inl ⟨rfl, _, SqL.of hoL⟩, o, ls, .ref pa, rfl, rfl, hoL, hlast, pa, _, rfl, SqT.of (k3 _ _ hpa), rfl, _, _, rfl, _, _, rfl, rfl, ?_⟩
    -- for late, late_room in steps(rule, spot, room)
    refine ⟨rfl, _, rfl, _, rfl, _, rfl, vr, R, .ref sa, x.2, x.1, rfl, hR.keep (.of s3), sm.wf, by have := sm.n; omega, by have := sm.N; omega, (spot_mk (s := x.1) hsa).keep k3, hdx.p, hdx.g, hdx.f, fun H4 lb zs s4 nb eb tb => ⟨lb, rfl, ⟨_, SqL.of eb⟩, ?_⟩⟩
    have hd3 : (upd H2 o (.lst ls.dropLast)) d = some (.dT (F.map encF)) := by rw [upd_ne ndo]; exact hdF
    have nbo : lb ≠ o := fun z => by rw [z, upd_same] at nb; cases nb
    have nbd : lb ≠ d := fun z => by rw [z, hd3] at nb; cases nb
    refine for_list (K := K) (a := lb) (xs := zs) (fun j σ H5 => ∃ y7 y8 F5 L5 ls5, σ = [some vr, some (.ref l), some (.ref fN), some (.ref d), some (.ref o), some (.ref sa), some (vR x.2), y7, y8] ∧ Same H H5 ∧ H5 d = some (.dT (F5.map encF)) ∧ H5 o = some (.lst ls5) ∧ H5 lb = some (.lst zs) ∧ TpL H5 zs ((st R x.1 x.2).map encSR) ∧ TpL H5 ls5 (L5.map encSR) ∧
        Wk (st R) starts (Dm R B) F5 L5 (some x) ∧ 2 * weight R B F5 + L5.length + 1 ≤ m ∧ ∀ y ∈ (st R x.1 x.2).take j, Cov F5 y)
      ⟨y7, y8, F, L', ls.dropLast, rfl, s3.trans s4, s4 _ _ hd3, s4 _ _ upd_same, eb, tb, (tL'.keep k3).keep (.of s4), wk.pop, by rw [hm, List.length_append, List.length_singleton]; omega, fun y hy => by cases hy⟩
      (fun j σ H5 _ hP => by obtain ⟨_, _, _, _, _, _, _, _, _, h, _⟩ := hP; exact SqL.of h) (fun j z σ H5 hz hP => ?_) (fun σ H5 hP => ?_)
    · obtain ⟨z7, z8, F5, L5, ls5, rfl, sH5, hd5, ho5, hb5, tz, tL5, wk5, hm5, hcov⟩ := hP
      obtain ⟨d0, ed0, tz1⟩ := tz.get' hz
      rw [List.getElem?_map] at ed0
      obtain ⟨y, ey, rfl⟩ := Option.map_eq_some_iff.mp ed0
      obtain ⟨ya, yb, rfl, hya, hyb⟩ := sr_inv tz1
      have hy : y ∈ st R x.1 x.2 := List.mem_of_getElem? ey
      have dy := dSt _ _ hdx hy
      have ry := Rch.step hrx hy
      have etk : (st R x.1 x.2).take (j + 1) = (st R x.1 x.2).take j ++ [y] := by rw [List.take_add_one, ey]; rfl
      have hval := valV_F (hf3 wk5.dF) (s := y.1) dy.f
      have hL5 : ls5.length ≤ 70000 := by rw [tL5.length, List.length_map]; omega
      have hF5 : (F5.map encF).length < sizeLine := by
        rw [List.length_map]
        exact small100' (Nat.le_trans (F_len wk5.nd wk5.dF) (by have := sm.le; omega))
      have skip : wants F5 y = false → ∃ z7' z8' F5' L5' ls5', [some vr, some (.ref l), some (.ref fN), some (.ref d), some (.ref o), some (.ref sa), some (vR x.2), some (.ref yb), some (vR y.2)] = [some vr, some (.ref l), some (.ref fN), some (.ref d), some (.ref o), some (.ref sa), some (vR x.2), z7', z8'] ∧ Same H H5 ∧ H5 d = some (.dT (F5'.map encF)) ∧ H5 o = some (.lst ls5') ∧ H5 lb = some (.lst zs) ∧ TpL H5 zs ((st R x.1 x.2).map encSR) ∧ TpL H5 ls5' (L5'.map encSR) ∧
          Wk (st R) starts (Dm R B) F5' L5' (some x) ∧ 2 * weight R B F5' + L5'.length + 1 ≤ m ∧ ∀ y ∈ (st R x.1 x.2).take (j + 1), Cov F5' y := fun hw => by
        refine ⟨_, _, F5, L5, ls5, rfl, sH5, hd5, ho5, hb5, tz, tL5, wk5, hm5, fun u hu => ?_⟩
        rw [etk] at hu
        rcases List.mem_append.mp hu with h | h
        · exact hcov u h
        · rw [List.mem_singleton.mp h]; exact cov_of_not hw
      -- found[late] = late_room; left.append((late, late_room))
      have put : wants F5 y = true → ∃ v1, some (some (vR y.2)) = some (some v1) ∧ ∃ v2, some (some (V.ref d)) = some (some v2) ∧ ∃ v3, some (some (V.ref yb)) = some (some v3) ∧ ∃ a H6, v2 = .ref a ∧ DPut H5 a v3 v1 H6 ∧
          ∃ v4, some (some (V.ref o)) = some (some v4) ∧ tyV K "list" v4 H6 ∧ ∃ v5, some (some (V.ref yb)) = some (some v5) ∧ ∃ v6, some (some (vR y.2)) = some (some v6) ∧ [v5, v6].length ≤ sizeLine ∧ ∀ c, H6 c = none → rAppend v4 [.ref c] (upd H6 c (.tup [v5, v6])) (fun _ H7 => ∃ z7' z8' F5' L5' ls5', [some vr, some (.ref l), some (.ref fN), some (.ref d), some (.ref o), some (.ref sa), some (vR x.2), some (.ref yb), some (vR y.2)] = [some vr, some (.ref l), some (.ref fN), some (.ref d), some (.ref o), some (.ref sa), some (vR x.2), z7', z8'] ∧ Same H H7 ∧ H7 d = some (.dT (F5'.map encF)) ∧ H7 o = some (.lst ls5') ∧ H7 lb = some (.lst zs) ∧ TpL H7 zs ((st R x.1 x.2).map encSR) ∧ TpL H7 ls5' (L5'.map encSR) ∧
          Wk (st R) starts (Dm R B) F5' L5' (some x) ∧ 2 * weight R B F5' + L5'.length + 1 ≤ m ∧ ∀ y ∈ (st R x.1 x.2).take (j + 1), Cov F5' y) := fun hw => by
        have s6 : Same H (upd H5 d (.dT (putK (F5.map encF) (spotK y.1) (vR y.2)))) := same_mut sH5 hd
        have k6 : KT H5 (upd H5 d (.dT (putK (F5.map encF) (spotK y.1) (vR y.2)))) := .dctT hd5
        have ho6 : (upd H5 d (.dT (putK (F5.map encF) (spotK y.1) (vR y.2)))) o = some (.lst ls5) := by rw [upd_ne ndo.symm]; exact ho5
        have hb6 : (upd H5 d (.dT (putK (F5.map encF) (spotK y.1) (vR y.2)))) lb = some (.lst zs) := by rw [upd_ne nbd]; exact hb5
        refine ⟨_, rfl, _, rfl, _, rfl, d, _, rfl, DPut.t (k := spotK y.1) hd5 hyb hF5, _, rfl, .inl ⟨rfl, _, SqL.of ho6⟩, _, rfl, _, rfl, small100 (by show 2 ≤ 1000000; decide), fun c hc => ?_⟩
        have s7 := same_upd (o := .tup [.ref yb, vR y.2]) hc
        have ho7 := s7 _ _ ho6
        refine ⟨o, ls5, .ref c, rfl, rfl, ho7, small100' (by omega), _, _, putF F5 y.1 y.2, L5 ++ [y], ls5 ++ [.ref c], rfl, same_mut (s6.trans s7) ho0, ?_, upd_same, ?_, ?_, ?_, wk5.put dy ry hw, ?_, fun u hu => ?_⟩
        · rw [upd_ne ndo, s7 _ _ upd_same, putK_F (hf3 wk5.dF) dy.f]
        · rw [upd_ne nbo]; exact s7 _ _ hb6
        · exact ((tz.keep k6).keep (.of s7)).keep (.lst ho7)
        · rw [List.map_append]
          refine TpL.keep (.lst ho7) (((tL5.keep k6).keep (.of s7)).app (.one (.tup upd_same (.two ?_ (tp_R _)))))
          exact ((spot_mk (s := y.1) hyb).keep k6).keep (.of s7)
        · have := weight_put sm.b0 wk5.nd dy wk5.dF hw
          rw [List.length_append, List.length_singleton]
          omega
        · rw [etk] at hu
          rcases List.mem_append.mp hu with h | h
          · exact cov_put wk5.nd hw (hcov u h)
          · rw [List.mem_singleton.mp h]; exact cov_new
      refine ⟨ya, _, rfl, SqT.of hya, rfl, _, _, rfl, _, _, rfl, rfl, ?_⟩
      have hget : DGet H5 d (.ref yb) (valV (F5.map encF) (spotK y.1)) := DGet.t (k := spotK y.1) hd5 hyb
      rw [hval] at hget
      cases elk : look F5 y.1 with
      | none =>
        rw [elk] at hget
        have hw : wants F5 y = true := by unfold wants; rw [elk]
        exact ⟨_, rfl, _, rfl, d, _, rfl, hget, true, rfl, put hw⟩
      | some r0 =>
        rw [elk] at hget
        refine ⟨_, rfl, _, rfl, d, _, rfl, hget, false, rfl, _, rfl, _, rfl, d, _, rfl, hget, _, rfl, r0, y.2, rfl, _, rfl, ?_⟩
        cases eie : isEnough r0 y.2 with
        | false =>
          have hw : wants F5 y = true := by unfold wants; rw [elk]; show (!isEnough r0 y.2) = true; rw [eie]; rfl
          exact put hw
        | true =>
          have hw : wants F5 y = false := by unfold wants; rw [elk]; show (!isEnough r0 y.2) = false; rw [eie]; rfl
          exact skip hw
    · obtain ⟨z7, z8, F5, L5, ls5, rfl, sH5, hd5, ho5, hb5, tz, tL5, wk5, hm5, hcov⟩ := hP
      have ez : zs.length = (st R x.1 x.2).length := by rw [tb.length, List.length_map]
      rw [ez, List.take_length] at hcov
      exact ⟨_, by omega, _, _, _, _, F5, L5, ls5, rfl, sH5, hd5, ho5, tL5, wk5.done hcov, rfl, by omega⟩
  · -- return found
    have e : ¬ (0 : Int) < (ls.length : Nat) := fun z => e (decide_eq_true z)
    have hLl : ls.length = L.length := by rw [tL.length, List.length_map]
    have eL : L = [] := List.eq_nil_of_length_eq_zero (by omega)
    subst eL
    exact ⟨_, rfl, q H2 d F sH hd hdF wk.fix wk.dF⟩
end
end K24
namespace K24
open PySem PySem.Spec PyProof.Rows L2
/-! ### listed -/
def keysOf (F : List (Spot × Rm)) : List Spot := (F.map (·.1)).mergeSort (PySem.W.dataLe false encSpot)
def sortF (F : List (Spot × Rm)) : List (Spot × Rm) := (keysOf F).map fun k => (k, (look F k).getD none)
theorem mem_keysOf {F : List (Spot × Rm)} {k : Spot} : k ∈ keysOf F ↔ k ∈ F.map (·.1) := (List.mergeSort_perm _ _).mem_iff
theorem keysOf_len (F : List (Spot × Rm)) : (keysOf F).length = F.length := by
  unfold keysOf
  rw [List.length_mergeSort, List.length_map]
theorem keysOf_look {F : List (Spot × Rm)} (nd : (F.map (·.1)).Nodup) {k : Spot} (h : k ∈ keysOf F) : ∃ r, look F k = some r ∧ (k, r) ∈ F := by
  obtain ⟨x, hx, e⟩ := List.mem_map.mp (mem_keysOf.mp h)
  subst e
  exact ⟨x.2, mem_look nd hx, hx⟩
section
variable {H : Hp}
def OnSpot (H : Hp) : Addr → Spot → Prop := fun b k => ∃ vs, H b = some (.tup vs) ∧ Tp H (.ref b) (encSpot k)
theorem keys_each : ∀ {F : List (Spot × Rm)} {bs : List Addr}, IsKeys H (F.map encF) bs → PySem.W.EachIs (OnSpot H) bs (F.map (·.1))
  | [], _, h => by unfold IsKeys at h; cases h; exact .nil
  | x :: F, _, h => by
    unfold IsKeys at h
    cases h with
    | cons h1 t => exact .cons ⟨_, h1, spot_mk (s := x.1) h1⟩ (keys_each t)
theorem each_tpl : ∀ {bs : List Addr} {ks : List Spot}, PySem.W.EachIs (OnSpot H) bs ks → TpL H (bs.map V.ref) (ks.map encSpot)
  | _, _, .nil => .nil
  | _, _, .cons h t => .cons h.choose_spec.2 (each_tpl t)
end
theorem flatMap_len {α β : Type} {f : α → List β} {c : Nat} : ∀ {l : List α}, (∀ x ∈ l, (f x).length ≤ c) → (l.flatMap f).length ≤ l.length * c
  | [], _ => Nat.zero_le _
  | x :: l, h => by
    rw [List.flatMap_cons, List.length_append, List.length_cons, Nat.add_mul, Nat.one_mul]
    have h1 := h x List.mem_cons_self
    have h2 := flatMap_len (l := l) fun y hy => h y (List.mem_cons_of_mem _ hy)
    omega
theorem any_len (R : Rule) (s : Spot) (r : Rm) (hn : R.ms.length ≤ 10) : (anySteps R s r).length ≤ 1000 := by
  have h1 : (anySteps R s r).length ≤ _ := flatMap_len (c := 11) fun i _ => Nat.le_trans (stepsBy_len R s r i) (by omega)
  have h2 := coming_len R.ms s.2.1 s.2.2 r
  omega
theorem steady_len (R : Rule) (s : Spot) (r : Rm) (hn : R.ms.length ≤ 10) : (steadySteps R s r).length ≤ 1000 := by
  have h1 : (steadySteps R s r).length ≤ _ := flatMap_len (c := 11) fun i _ => Nat.le_trans (steadyBy_len R s r i) (by omega)
  have h2 := steadyCases_len R.ms s.2.1 s.2.2 r
  omega
section
variable {P : Program} {w : World} {K : PySem.W.Frag} {mg : Str → Option Value} {base : Heap} {aC aP fA fS : Addr} {f : Addr} {fd : FuncData}
def sp_listed : Sp := fun vs H Q _ => ∃ d F, vs = [.ref d] ∧ H d = some (.dT (F.map encF)) ∧ F.length ≤ 1000 ∧ (F.map (·.1)).Nodup ∧ (∀ x ∈ F, x.1.2.2 < 3) ∧ RetT Q H (.tuple ((sortF F).map encSR))
theorem ok_listed (T : Txt K w mg aC aP fA fS) (D : Dfn K mg "listed" s_listed f fd ["found"]) : FnOk P w K mg base L2.CX0 1 f fd ["found"] sp_listed := by
  refine fnok_of D sc_listed (fun vs H Q E h => by obtain ⟨d, F, rfl, _⟩ := h; rfl) (fun cdv A outer s H vs Q E hr h => ?_)
  obtain ⟨d, F, rfl, hd, hl, nd, hf, q⟩ := h
  have hu := hu_of hr
  refine ⟨_, (pss_one (ps_ret (pe_callTy (r := rTup K) cTup (by rfl) T.tuple (by decide +kernel) (pa_cons (pe_lc (own := [("spot", 1)]) (g := gName 1) rfl sc_listed.nd (pi_list (pe_callB (cr_sortedE (enc := encSpot) hr.units) (by rfl) T.sorted (by decide +kernel) (pa_cons (pe_callTy (call_list_dT rfl) (by rfl) T.list (by decide +kernel) (pa_cons (pv 0) pa_nil)) pa_nil))) (blkOk_by (own := [("spot", 1)]) (N := N_listed) (sc := defScope s_listed) (by decide +kernel)) (fun _ _ _ _ _ => (pg_name (i := 1) sc_listed.nd rfl (.inl rfl))) (fun _ _ _ _ _ => pts_nil) (fun _ _ _ _ _ => (pe_tup (pa_cons (pv 1) (pa_cons (pe_dget hu (pv 0) (pv 1) (fun _ _ => rfl)) pa_nil))))) pa_nil)))), ?_⟩
  refine ⟨_, rfl, d, _, rfl, .inl hd, fun p bs hp hk => ?_⟩
  have s1 := same_upd (o := .lst (bs.map V.ref)) hp
  have he := keys_each hk
  have he1 : PySem.W.EachIs (OnSpot (upd H p (.lst (bs.map V.ref)))) bs (F.map (·.1)) := each_mono he fun b k ⟨vs, h1, h2⟩ => ⟨vs, s1 _ _ h1, h2.keep (.of s1)⟩
  refine ⟨p, bs, F.map (fun x : Spot × Rm => x.1), rfl, SqL.of upd_same, he1, fun b b' => rfl, fun b => ⟨_, _, rfl⟩, fun b => Nat.le_of_ble_eq_true rfl, fun o bs' ho he2 => ?_⟩
  have he2 : PySem.W.EachIs (OnSpot (upd H p (.lst (bs.map V.ref)))) bs' (keysOf F) := he2
  have s2 := same_upd (o := .lst (bs'.map V.ref)) ho
  refine ⟨o, rfl, ⟨_, SqL.of upd_same⟩, fun D hD => ?_⟩
  have t2 := (each_tpl he2).keep (.of s2)
  refine lc_listT (fun k : Spot => some (encSR (k, (look F k).getD none))) hD (SqL.of upd_same) t2 (by rw [keysOf_len]; exact small100' (by omega)) (fun x k H4 R hk s4 hx h0 h1 => ?_) (fun H4 acc s4 e t => ?_)
  · obtain ⟨ka, rfl, hka⟩ := spot_inv hx
    obtain ⟨r, hr1, hr2⟩ := keysOf_look nd hk
    have hv : valV (F.map encF) (spotK k) = some (vR r) := by rw [valV_F hf (hf _ hr2), hr1]; rfl
    have hget : DGet H4 d (.ref ka) (valV (F.map encF) (spotK k)) := DGet.t (k := spotK k) (s4 _ _ (s2 _ _ (s1 _ _ hd))) hka
    rw [hv] at hget
    refine ⟨rfl, _, rfl, _, rfl, _, rfl, d, _, rfl, hget, small100 (by show 2 ≤ 1000000; decide), fun c hc => ?_⟩
    have s5 := same_upd (o := .tup [.ref ka, vR r]) hc
    refine h1 _ _ _ s5 rfl ?_
    rw [hr1]
    exact .tup upd_same (.two ((spot_mk (s := k) hka).keep (.of s5)) (tp_R r))
  · refine ⟨D, acc, rfl, .inl ⟨SqL.of e, fun l hl => ?_⟩⟩
    have s5 := same_upd (o := .tup acc) hl
    refine q _ _ (s1.trans (s2.trans (s4.trans s5))) (.tup upd_same ?_)
    rw [List.filterMap_eq_map'] at t
    unfold sortF
    rw [List.map_map]
    exact TpL.keep (.of s5) t
/-! ### spots_of, steady_spots -/
def sp_spots (st : Rule → Spot → Rm → List (Spot × Rm)) : Sp := fun vs H Q _ => ∃ vr R B, vs = [vr] ∧ Tp H vr (encRule R) ∧ Small R B ∧
  ∀ F, Fix (st R) (firstSpots R.ms) F → (∀ x ∈ F, Dm R B x) → RetT Q H (.tuple ((sortF F).map encSR))
theorem ok_spots_of (T : Txt K w mg aC aP fA fS) (c_first_spots : Cal P w K mg base 3 "first_spots" sp_first_spots) (c_reached : Cal P w K mg base 6 "reached" (sp_reached fA anySteps)) (c_listed : Cal P w K mg base 1 "listed" sp_listed)
    (D : Dfn K mg "spots_of" s_spots_of f fd ["rule"]) : FnOk P w K mg base L2.CX0 7 f fd ["rule"] (sp_spots anySteps) := by
  refine fnok_of D sc_spots_of (fun vs H Q E h => by obtain ⟨vr, R, B, rfl, _⟩ := h; rfl) (fun cdv A outer s H vs Q E hr h => ?_)
  obtain ⟨vr, R, B, rfl, hR, sm, q⟩ := h
  obtain ⟨ra, vm, pa, xs, rfl, hra, hm, hpa, tpa⟩ := rule_inv hR
  refine ⟨_, (pss_one (ps_ret (pe_c c_listed hr (by decide) (by rfl) (pa_cons (pe_c c_reached hr (by decide) (by rfl) (pa_cons (pv 0) (pa_cons (pe_c c_first_spots hr (by decide) (by rfl) (pa_cons (pe_ix (r := rIxT K) ix_tup (pv 0) pe_int (fun _ _ => rfl)) pa_nil)) (pa_cons (pe_glob (v := .ref fA) (by rfl) T.g_any_steps rfl) pa_nil)))) pa_nil)))), ?_⟩
  refine ⟨_, rfl, _, rfl, ra, _, _, _, rfl, rfl, SqT.of hra, at_of (j := 0) rfl rfl, vm, R.ms, rfl, hm, by have := sm.n; omega, fun H1 l zs s1 nl el tl => ?_⟩
  refine ⟨_, l, R, zs, B, firstSpots R.ms, rfl, hR.keep (.of s1), sm, el, tl, firstSpots_nodup _, fun x hx => dm_first sm.wf sm.bd hx, fun x y d h => dm_any sm.wf sm.bd d h, fun x => any_len R _ _ sm.n, fun H2 d F s2 nd2 ed hF hdm => ?_⟩
  refine ⟨d, F, rfl, ed, ?_, hF.nd, fun x hx => (hdm x hx).f, (q F hF hdm).later (s1.trans s2)⟩
  exact Nat.le_trans (F_len hF.nd hdm) (by have := sm.le; omega)
theorem ok_steady_spots (T : Txt K w mg aC aP fA fS) (c_first_spots : Cal P w K mg base 3 "first_spots" sp_first_spots) (c_reached : Cal P w K mg base 6 "reached" (sp_reached fS steadySteps)) (c_listed : Cal P w K mg base 1 "listed" sp_listed)
    (D : Dfn K mg "steady_spots" s_steady_spots f fd ["rule"]) : FnOk P w K mg base L2.CX0 7 f fd ["rule"] (sp_spots steadySteps) := by
  refine fnok_of D sc_steady_spots (fun vs H Q E h => by obtain ⟨vr, R, B, rfl, _⟩ := h; rfl) (fun cdv A outer s H vs Q E hr h => ?_)
  obtain ⟨vr, R, B, rfl, hR, sm, q⟩ := h
  obtain ⟨ra, vm, pa, xs, rfl, hra, hm, hpa, tpa⟩ := rule_inv hR
  refine ⟨_, (pss_one (ps_ret (pe_c c_listed hr (by decide) (by rfl) (pa_cons (pe_c c_reached hr (by decide) (by rfl) (pa_cons (pv 0) (pa_cons (pe_c c_first_spots hr (by decide) (by rfl) (pa_cons (pe_ix (r := rIxT K) ix_tup (pv 0) pe_int (fun _ _ => rfl)) pa_nil)) (pa_cons (pe_glob (v := .ref fS) (by rfl) T.g_steady_steps rfl) pa_nil)))) pa_nil)))), ?_⟩
  refine ⟨_, rfl, _, rfl, ra, _, _, _, rfl, rfl, SqT.of hra, at_of (j := 0) rfl rfl, vm, R.ms, rfl, hm, by have := sm.n; omega, fun H1 l zs s1 nl el tl => ?_⟩
  refine ⟨_, l, R, zs, B, firstSpots R.ms, rfl, hR.keep (.of s1), sm, el, tl, firstSpots_nodup _, fun x hx => dm_first sm.wf sm.bd hx, fun x y d h => (dm_steady sm.wf sm.bd d h).1, fun x => steady_len R _ _ sm.n, fun H2 d F s2 nd2 ed hF hdm => ?_⟩
  refine ⟨d, F, rfl, ed, ?_, hF.nd, fun x hx => (hdm x hx).f, (q F hF hdm).later (s1.trans s2)⟩
  exact Nat.le_trans (F_len hF.nd hdm) (by have := sm.le; omega)
end
end K24
namespace K24
open PySem PySem.Spec PyProof.Rows L2
/-! ### the feed: all but its dict is kept -/
def Kf (f : Addr) (H H' : Hp) : Prop := ∀ a o, a ≠ f → H a = some o → H' a = some o
theorem Kf.refl {f : Addr} (H : Hp) : Kf f H H := fun _ _ _ h => h
theorem Kf.trans {f : Addr} {H H1 H2 : Hp} (a : Kf f H H1) (b : Kf f H1 H2) : Kf f H H2 := fun c o n h => b c o n (a c o n h)
theorem Kf.of {f : Addr} {H H' : Hp} (s : Same H H') : Kf f H H' := fun a o _ h => s a o h
theorem Kf.put {f : Addr} {H : Hp} {o : HO} : Kf f H (upd H f o) := fun a u n h => by rw [upd_ne n]; exact h
theorem Kf.mut {f p : Addr} {H H' : Hp} {o : HO} (k : Kf f H H') (h : H p = none) : Kf f H (upd H' p o) := fun b x n e => by
  rw [upd_ne (ne_of_none e h)]; exact k b x n e
theorem Kf.free {f : Addr} {H H' : Hp} (k : Kf f H H') {p : Addr} (h : H' p = none) (hf : H' f ≠ none) : H p = none := by
  cases e : H p with
  | none => rfl
  | some o =>
    by_cases n : p = f
    · subst n; exact absurd h hf
    · rw [k p o n e] at h; cases h
def feedL (pc : Addr) (s l t : Int) : List (Key × V) := [(.inr "cells", .ref pc), (.inr "spot", .int s), (.inr "left", .int l), (.inr "turns", .int t)]
def FeedOk (H : Hp) (f pc : Addr) : Prop := ∃ (cs : List Int) (s l t : Int), H f = some (.dK (feedL pc s l t)) ∧ H pc = some (.lst (cs.map V.int)) ∧ cs.length ≤ 63
section
variable {H H' : Hp} {f pc : Addr}
theorem FeedOk.ne (h : FeedOk H f pc) : H f ≠ none := by
  obtain ⟨_, _, _, _, e, _⟩ := h
  rw [e]; intro z; cases z
theorem FeedOk.kt (h : FeedOk H f pc) (k : Kf f H H') : KT H H' := fun a xs e => by
  obtain ⟨_, _, _, _, ef, _⟩ := h
  exact k a _ (ne_of e ef (by intro z; cases z)) e
theorem FeedOk.lst (h : FeedOk H f pc) (k : Kf f H H') {a : Addr} {xs : List V} (e : H a = some (.lst xs)) : H' a = some (.lst xs) := by
  obtain ⟨_, _, _, _, ef, _⟩ := h
  exact k a _ (ne_of e ef (by intro z; cases z)) e
theorem FeedOk.same (h : FeedOk H f pc) (s : Same H H') : FeedOk H' f pc := by
  obtain ⟨cs, a, b, c, e1, e2, e3⟩ := h
  exact ⟨cs, a, b, c, s _ _ e1, s _ _ e2, e3⟩
theorem FeedOk.mut {H0 : Hp} {p : Addr} {o : HO} (h : FeedOk H f pc) (h0 : FeedOk H0 f pc) (n : H0 p = none) : FeedOk (upd H p o) f pc := by
  obtain ⟨cs, a, b, c, e1, e2, e3⟩ := h
  obtain ⟨_, _, _, _, g1, g2, _⟩ := h0
  refine ⟨cs, a, b, c, ?_, ?_, e3⟩
  · rw [upd_ne (ne_of_none g1 n)]; exact e1
  · rw [upd_ne (ne_of_none g2 n)]; exact e2
theorem FeedOk.new {p : Addr} {o : HO} (h : FeedOk H f pc) (n : H p = none) : FeedOk (upd H p o) f pc := h.mut h n
end
section
variable {pc : Addr} {s l t : Int}
theorem ne1 : ¬ ((Sum.inr "cells" : Key) = .inr "turns") := by decide +kernel
theorem ne2 : ¬ ((Sum.inr "spot" : Key) = .inr "turns") := by decide +kernel
theorem ne3 : ¬ ((Sum.inr "left" : Key) = .inr "turns") := by decide +kernel
theorem ne4 : ¬ ((Sum.inr "cells" : Key) = .inr "left") := by decide +kernel
theorem ne5 : ¬ ((Sum.inr "spot" : Key) = .inr "left") := by decide +kernel
theorem ne6 : ¬ ((Sum.inr "cells" : Key) = .inr "spot") := by decide +kernel
theorem ne7 : ¬ ((Sum.inr "turns" : Key) = .inr "left") := by decide +kernel
theorem ne8 : ¬ ((Sum.inr "left" : Key) = .inr "spot") := by decide +kernel
theorem ne9 : ¬ ((Sum.inr "turns" : Key) = .inr "spot") := by decide +kernel
theorem merge_feed : mergeK [] (feedL pc s l t) = feedL pc s l t := by
  have e0 : putK ([] : List (Key × V)) (.inr "cells") (.ref pc) = [(.inr "cells", .ref pc)] := putK_new _ valV_nil
  have e1 : putK ([(.inr "cells", .ref pc)] : List (Key × V)) (.inr "spot") (.int s) = [(.inr "cells", .ref pc), (.inr "spot", .int s)] := putK_new _ ((valV_neg ne6).trans valV_nil)
  have e2 : putK ([(.inr "cells", .ref pc), (.inr "spot", .int s)] : List (Key × V)) (.inr "left") (.int l) = [(.inr "cells", .ref pc), (.inr "spot", .int s), (.inr "left", .int l)] := putK_new _ ((valV_neg ne4).trans ((valV_neg ne5).trans valV_nil))
  have e3 : putK ([(.inr "cells", .ref pc), (.inr "spot", .int s), (.inr "left", .int l)] : List (Key × V)) (.inr "turns") (.int t) = feedL pc s l t := putK_new _ ((valV_neg ne1).trans ((valV_neg ne2).trans ((valV_neg ne3).trans valV_nil)))
  show putK (putK (putK (putK ([] : List (Key × V)) (Sum.inr "cells") (.ref pc)) (Sum.inr "spot") (.int s)) (Sum.inr "left") (.int l)) (Sum.inr "turns") (.int t) = _
  rw [e0, e1, e2, e3]
theorem feed_cells : valV (feedL pc s l t) (.inr "cells") = some (.ref pc) := valV_pos rfl
theorem feed_spot : valV (feedL pc s l t) (.inr "spot") = some (.int s) := (valV_neg ne6).trans (valV_pos rfl)
theorem feed_left : valV (feedL pc s l t) (.inr "left") = some (.int l) := (valV_neg ne4).trans ((valV_neg ne5).trans (valV_pos rfl))
theorem feed_turns : valV (feedL pc s l t) (.inr "turns") = some (.int t) := (valV_neg ne1).trans ((valV_neg ne2).trans ((valV_neg ne3).trans (valV_pos rfl)))
theorem put_old {k : Key} {v x : V} {kvs : List (Key × V)} (h : valV kvs k = some x) : putK kvs k v = kvs.map fun kv => if kv.1 = k then (kv.1, v) else kv := by
  unfold putK
  rw [valV_any, h]
  rfl
theorem put_spot {x : Int} : putK (feedL pc s l t) (.inr "spot") (.int x) = feedL pc x l t := by
  rw [put_old feed_spot]
  unfold feedL
  rw [List.map_cons, List.map_cons, List.map_cons, List.map_cons, if_neg ne6, if_pos rfl, if_neg ne8, if_neg ne9]; rfl
theorem put_left {x : Int} : putK (feedL pc s l t) (.inr "left") (.int x) = feedL pc s x t := by
  rw [put_old feed_left]
  unfold feedL
  rw [List.map_cons, List.map_cons, List.map_cons, List.map_cons, if_neg ne4, if_neg ne5, if_pos rfl, if_neg ne7]; rfl
theorem put_turns {x : Int} : putK (feedL pc s l t) (.inr "turns") (.int x) = feedL pc s l x := by
  rw [put_old feed_turns]
  unfold feedL
  rw [List.map_cons, List.map_cons, List.map_cons, List.map_cons, if_neg ne1, if_neg ne2, if_neg ne3, if_pos rfl]; rfl
end
theorem fm_nat {i : Int} {n : Nat} (h : 0 < n) : ∃ r : Nat, i.fmod (n : Nat) = (r : Nat) ∧ r < n := by
  have h1 := Int.fmod_nonneg_of_pos i (b := (n : Nat)) (by omega)
  have h2 := Int.fmod_lt_of_pos i (b := (n : Nat)) (by omega)
  exact ⟨(i.fmod n).toNat, by omega, by omega⟩
theorem tp_ints {H : Hp} {cs : List Int} {K : PySem.W.Frag} {a : Addr} (h : H a = some (.lst (cs.map V.int))) : Dp K H (.ref a) (.list (cs.map PyData.int)) := .lst (SqL.of h) (TpL.dp ints_mk)
theorem eqv_nil {xs : List PyData} : PyData.eqv (.list xs) (.list []) = xs.isEmpty := by
  cases xs with
  | nil => simp [PyData.eqv, PyData.eqvAll]
  | cons x xs => simp [PyData.eqv, PyData.eqvAll]
section
variable {P : Program} {w : World} {K : PySem.W.Frag} {mg : Str → Option Value} {base : Heap} {aC aP fA fS : Addr} {f : Addr} {fd : FuncData}
def sp_feed (K : PySem.W.Frag) : Sp := fun vs H Q _ => ∃ (l : Addr) (cs : List Int), vs = [.ref l] ∧ SqL K H l (cs.map V.int) ∧ cs.length ≤ 63 ∧ ∀ H' p pc, Same H H' → H p = none → FeedOk H' p pc → Q (.ref p) H'
theorem ok_law_feed (T : Txt K w mg aC aP fA fS) (D : Dfn K mg "_law_feed" s_law_feed f fd ["_law_script"]) : FnOk P w K mg base L2.CX0 1 f fd ["_law_script"] (sp_feed K) := by
  refine fnok_of D sc_law_feed (fun vs H Q E h => by obtain ⟨l, cs, rfl, _⟩ := h; rfl) (fun cdv A outer s H vs Q E hr h => ?_)
  obtain ⟨l, cs, rfl, hl, hc, q⟩ := h
  refine ⟨_, (pss_one (ps_ret (pe_disp (pps_cons pe_str (pe_lc (own := [("_law_cell", 1)]) (g := gName 1) rfl sc_law_feed.nd (pi_list (pe_slice sl_list (pv 0) po_none (po_some pe_int))) (blkOk_by (own := [("_law_cell", 1)]) (N := N_law_feed) (sc := defScope s_law_feed) (by decide +kernel)) (fun _ _ _ _ _ => (pg_name (i := 1) sc_law_feed.nd rfl (.inl rfl))) (fun _ _ _ _ _ => pts_nil) (fun _ _ _ _ _ => (pe_callTy call_int1 (by rfl) T.int (by decide +kernel) (pa_cons (pv 1) pa_nil)))) (pps_cons pe_str pe_int (pps_cons pe_str pe_int (pps_cons pe_str pe_int pps_nil)))) (by rfl) (by rfl) (fun z => by cases z) (by decide)))), ?_⟩
  refine fun p hp => ?_
  have s1 := same_upd (o := .dK []) hp
  have e63 : (((cs.map V.int).take 63 : List V)) = (cs.take 63).map V.int := (List.map_take).symm
  have ec : cutV (cs.map V.int) none (some 63) = (cs.take 63).map V.int := by
    rw [← e63]
    unfold cutV
    rw [show HT.sIx (cs.map V.int).length 0 none = 0 from rfl, show (some (63 : Int)) = some ((63 : Nat) : Int) from rfl, HT.sIx_nat, List.drop_zero, Nat.sub_zero, List.length_map]
    rcases Nat.le_total 63 cs.length with h | h
    · rw [Nat.min_eq_left h]
    · rw [Nat.min_eq_right h, List.take_of_length_le (by rw [List.length_map]; exact Nat.le_refl _), List.take_of_length_le (by rw [List.length_map]; exact h)]
  refine ⟨_, rfl, _, rfl, l, _, rfl, s1.seq hl, fun o ho => ?_⟩
  have s2 := same_upd (o := .lst (cutV (cs.map V.int) none (some 63))) ho
  refine ⟨o, rfl, ⟨_, SqL.of upd_same⟩, fun D hD => ?_⟩
  have tl : TpL (upd (upd H p (.dK [])) o (.lst (cutV (cs.map V.int) none (some 63)))) (cutV (cs.map V.int) none (some 63)) ((cs.take 63).map PyData.int) := by rw [ec]; exact ints_mk
  refine lc_listT (fun i : Int => some (PyData.int i)) hD (SqL.of upd_same) tl (small100' (by rw [List.length_take]; omega)) (fun x i H5 R' hd s5 hx5 h0 h1 => ?_) (fun H5 acc5 s5 e5 t5 => ?_)
  · have hx := hx5.int_inv
    subst hx
    exact ⟨rfl, _, rfl, .inl ⟨_, rfl, h1 _ _ _ (Same.refl _) rfl (.int _)⟩⟩
  · rw [List.filterMap_eq_map'] at t5
    have ea := ints_inv t5
    subst ea
    have ep := s5 _ _ (s2 _ _ (show (upd H p (.dK [])) p = some (.dK []) from upd_same))
    have nDp : D ≠ p := fun z => by rw [z, s2 _ _ upd_same] at hD; cases hD
    refine ⟨ep, feedL D 0 0 0, rfl, by show 4 ≤ 15; decide, ?_⟩
    rw [merge_feed]
    refine q _ p D (same_mut (s1.trans (s2.trans s5)) hp) hp ⟨cs.take 63, 0, 0, 0, upd_same, ?_, by rw [List.length_take]; omega⟩
    rw [upd_ne nDp]; exact e5
def sp_draw : Sp := fun vs H Q _ => ∃ f pc n, vs = [.ref f, .int (n : Nat)] ∧ FeedOk H f pc ∧ 0 < n ∧ n ≤ 1000 ∧ ∀ H' r, Kf f H H' → FeedOk H' f pc → r < n → Q (.int (r : Nat)) H'
theorem ok_law_draw (T : Txt K w mg aC aP fA fS) (D : Dfn K mg "_law_draw" s_law_draw f fd ["_law_feed_here", "_law_size"]) : FnOk P w K mg base L2.CX0 1 f fd ["_law_feed_here", "_law_size"] sp_draw := by
  refine fnok_of D sc_law_draw (fun vs H Q E h => by obtain ⟨f, pc, n, rfl, _⟩ := h; rfl) (fun cdv A outer s H vs Q E hr h => ?_)
  obtain ⟨f, pc, n, rfl, ⟨cs, sp, lf, tn, hf, hpc, hcs⟩, hn, hn2, q⟩ := h
  have hu := hu_of hr
  refine ⟨_, (pss_cons (ps_dput hu (pv 0) pe_str (pe_op op_add (pe_dget hu (pv 0) pe_str (fun _ _ => rfl)) pe_int) rfl)
      (pss_cons (ps_if (pt_cmpR op_gt (pe_dget hu (pv 0) pe_str (fun _ _ => rfl)) pe_int (nomark _)) (pss_cons (ps_set (i := 2) sc_law_draw.nd rfl (.inl rfl) (pe_op op_modN (pe_callTy call_int1 (by rfl) T.int (by decide +kernel) (pa_cons (pe_dget hu (pv 0) pe_str (fun _ _ => rfl)) pa_nil)) (pv 1)))
      (pss_cons (ps_dput hu (pv 0) pe_str (pe_op op_fdivN (pe_dget hu (pv 0) pe_str (fun _ _ => rfl)) (pv 1)) rfl)
      (pss_one (ps_ret (pv 2))))) pss_nil)
      (pss_cons (ps_par (i := 3) (j := 4) rfl sc_law_draw.nd rfl rfl (by decide) rfl rfl (pa_cons (pe_dget hu (pv 0) pe_str (fun _ _ => rfl)) (pa_cons (pe_dget hu (pv 0) pe_str (fun _ _ => rfl)) pa_nil)) (by rfl))
      (pss_cons (ps_dput hu (pv 0) pe_str (pe_op op_add (pv 4) pe_int) rfl)
      (pss_cons (ps_set (i := 5) sc_law_draw.nd rfl (.inl rfl) (pe_ifExp (pt_cmpR (op_neD hr.units) (pv 3) (pe_lst pa_nil) (nomark _)) (pe_ix (r := rIxL K) ix_list (pv 3) (pe_op op_modN (pe_callTy call_int1 (by rfl) T.int (by decide +kernel) (pa_cons (pv 4) pa_nil)) (pe_callB (r := rLen K) cLen (by rfl) T.len (by decide +kernel) (pa_cons (pv 3) pa_nil))) (fun _ _ => rfl)) pe_int))
      (pss_cons (ps_if (PW.pt (pw_and (pt_cmpR op_ge (pv 5) (pe_op op_pow pe_int pe_int) (nomark _)) (pw_and1 (pt_cmpR op_lt (pv 4) (pe_callB (r := rLen K) cLen (by rfl) T.len (by decide +kernel) (pa_cons (pv 3) pa_nil)) (nomark _))))) (pss_cons (ps_dput hu (pv 0) pe_str (pe_op op_fdivN (pv 5) (pv 1)) rfl)
      (pss_one (ps_ret (pe_op op_modN (pe_callTy call_int1 (by rfl) T.int (by decide +kernel) (pa_cons (pv 5) pa_nil)) (pv 1))))) pss_nil)
      (pss_cons (ps_set (i := 6) sc_law_draw.nd rfl (.inl rfl) (pe_op op_modN (pe_callTy call_int1 (by rfl) T.int (by decide +kernel) (pa_cons (pe_op op_add (pe_op op_add (pe_op op_mul (pe_op op_modN (pe_callTy call_int1 (by rfl) T.int (by decide +kernel) (pa_cons (pv 5) pa_nil)) pe_int) pe_int) (pe_op op_mul pe_int (pe_dget hu (pv 0) pe_str (fun _ _ => rfl)))) pe_int) pa_nil)) pe_int))
      (pss_cons (ps_set (i := 6) sc_law_draw.nd rfl (.inl rfl) (pe_op op_modN (pe_callTy call_int1 (by rfl) T.int (by decide +kernel) (pa_cons (pe_op op_add (pe_op op_add (pe_op op_mul (pv 6) (pv 6)) (pe_op op_mul pe_int (pe_dget hu (pv 0) pe_str (fun _ _ => rfl)))) pe_int) pa_nil)) pe_int))
      (pss_one (ps_ret (pe_op op_modN (pe_callTy call_int1 (by rfl) T.int (by decide +kernel) (pa_cons (pe_op op_fdivN (pe_op op_modN (pe_callTy call_int1 (by rfl) T.int (by decide +kernel) (pa_cons (pe_op op_add (pe_op op_mul (pv 6) (pv 6)) (pe_op op_mul pe_int (pv 6))) pa_nil)) pe_int) pe_int) pa_nil)) (pv 1)))))))))))), ?_⟩
  have npf : pc ≠ f := ne_of hpc hf (by intro z; cases z)
  have z4 : ∀ s l t, (feedL pc s l t).length < sizeLine := fun s l t => small100' (by show 4 ≤ 1000000; decide)
  have gC : ∀ {H1 : Hp} {s l t}, H1 f = some (.dK (feedL pc s l t)) → DGet H1 f (.str "cells") (some (.ref pc)) := fun h => .inl ⟨_, .inr "cells", .inl h, rfl, feed_cells.symm⟩
  have gS : ∀ {H1 : Hp} {s l t}, H1 f = some (.dK (feedL pc s l t)) → DGet H1 f (.str "spot") (some (.int s)) := fun h => .inl ⟨_, .inr "spot", .inl h, rfl, feed_spot.symm⟩
  have gL : ∀ {H1 : Hp} {s l t}, H1 f = some (.dK (feedL pc s l t)) → DGet H1 f (.str "left") (some (.int l)) := fun h => .inl ⟨_, .inr "left", .inl h, rfl, feed_left.symm⟩
  have gT : ∀ {H1 : Hp} {s l t}, H1 f = some (.dK (feedL pc s l t)) → DGet H1 f (.str "turns") (some (.int t)) := fun h => .inl ⟨_, .inr "turns", .inl h, rfl, feed_turns.symm⟩
  have pS : ∀ {H1 : Hp} {s l t x}, H1 f = some (.dK (feedL pc s l t)) → DPut H1 f (.str "spot") (.int x) (upd H1 f (.dK (feedL pc x l t))) := fun {H1 s l t x} h => .inl ⟨_, .inr "spot", h, rfl, z4 s l t, by rw [put_spot]⟩
  have pL : ∀ {H1 : Hp} {s l t x}, H1 f = some (.dK (feedL pc s l t)) → DPut H1 f (.str "left") (.int x) (upd H1 f (.dK (feedL pc s x t))) := fun {H1 s l t x} h => .inl ⟨_, .inr "left", h, rfl, z4 s l t, by rw [put_left]⟩
  have pT : ∀ {H1 : Hp} {s l t x}, H1 f = some (.dK (feedL pc s l t)) → DPut H1 f (.str "turns") (.int x) (upd H1 f (.dK (feedL pc s l x))) := fun {H1 s l t x} h => .inl ⟨_, .inr "turns", h, rfl, z4 s l t, by rw [put_turns]⟩
  have kp : ∀ {H1 : Hp} {o}, Kf f H H1 → H1 pc = some (.lst (cs.map V.int)) → Kf f H (upd H1 f o) ∧ (upd H1 f o) pc = some (.lst (cs.map V.int)) := fun k e => ⟨k.trans .put, by rw [upd_ne npf]; exact e⟩
  have fin : ∀ {H1 : Hp} {s l t}, Kf f H H1 → H1 pc = some (.lst (cs.map V.int)) → H1 f = some (.dK (feedL pc s l t)) → FeedOk H1 f pc := fun _ e h => ⟨cs, _, _, _, h, e, hcs⟩
  have hnz : (n : Int) ≠ 0 := by omega
  have nz : ∀ {i j : Int}, j ≠ 0 → (fun (_ j : Int) => j ≠ 0) i j := fun h => h
  have hnd : ∀ {i : Int}, CDivN i (n : Nat) := ⟨hnz, by omega⟩
  -- turns
  refine ⟨_, rfl, f, .int tn, rfl, gT hf, _, _, rfl, rfl, _, rfl, f, _, rfl, pT hf, ?_⟩
  obtain ⟨k1, c1⟩ := kp (o := .dK (feedL pc sp lf (tn + 1))) (Kf.refl H) hpc
  have f1 : (upd H f (.dK (feedL pc sp lf (tn + 1)))) f = some (.dK (feedL pc sp lf (tn + 1))) := upd_same
  generalize hH1 : upd H f (.dK (feedL pc sp lf (tn + 1))) = H1 at k1 c1 f1 ⊢
  clear hH1
  refine ⟨_, rfl, f, _, rfl, gL f1, _, _, rfl, rfl, _, rfl, ite2 (fun e => ?_) (fun e => ?_)⟩
  · refine ⟨_, rfl, f, _, rfl, gL f1, .inl ⟨_, rfl, _, rfl, _, _, rfl, rfl, hnz, ?_⟩⟩
    obtain ⟨r, er, hr⟩ := fm_nat (i := lf) hn
    refine ⟨_, rfl, f, _, rfl, gL f1, _, rfl, _, _, rfl, rfl, hnd, _, rfl, f, _, rfl, pL f1, ?_⟩
    obtain ⟨k2, c2⟩ := kp (o := .dK (feedL pc sp (lf.fdiv n) (tn + 1))) k1 c1
    refine ⟨_, rfl, ?_⟩
    show Q (.int (lf.fmod (n : Nat))) _
    rw [er]
    exact q _ r k2 (fin k2 c2 upd_same) hr
  · refine ⟨_, rfl, f, _, rfl, gC f1, _, rfl, f, _, rfl, gS f1, _, _, rfl, ?_⟩
    refine ⟨_, rfl, _, _, rfl, rfl, _, rfl, f, _, rfl, pS f1, ?_⟩
    obtain ⟨k2, c2⟩ := kp (o := .dK (feedL pc (sp + 1) lf (tn + 1))) k1 c1
    have f2 : (upd H1 f (.dK (feedL pc (sp + 1) lf (tn + 1)))) f = some (.dK (feedL pc (sp + 1) lf (tn + 1))) := upd_same
    generalize hH2 : upd H1 f (.dK (feedL pc (sp + 1) lf (tn + 1))) = H2 at k2 c2 f2 ⊢
    clear hH2 k1 c1 f1
    dsimp only [gName]
    refine asg_cut (fun v H3 => Same H2 H3 ∧ ∃ i, v = .int i) (fun Q' hQ => ?_) (fun v H3 hv => ?_)
    · refine ⟨_, rfl, small100 (by show 0 ≤ 1000000; decide), fun p hp => ?_⟩
      have s3 := same_upd (o := .lst []) hp
      refine ⟨.list (cs.map PyData.int), .list [], tp_ints (s3 _ _ c2), .lst (SqL.of upd_same) .nil, PySem.W.ke_shaped_ints _, rfl, _, rfl, ?_⟩
      rw [eqv_nil]
      cases ec : (cs.map PyData.int).isEmpty with
      | true => exact hQ _ _ ⟨s3, _, rfl⟩
      | false =>
        have hpos : 0 < cs.length := by
          cases cs with
          | nil => cases ec
          | cons c cs => exact Nat.zero_lt_succ _
        obtain ⟨j, ej, hj⟩ := fm_nat (i := sp) hpos
        refine ⟨_, rfl, _, rfl, .inl ⟨_, rfl, _, rfl, pc, _, rfl, .inl (SqL.of (s3 _ _ c2)), _, _, rfl, rfl, by rw [List.length_map]; omega, pc, _, _, _, rfl, rfl, SqL.of (s3 _ _ c2), ?_, hQ _ _ ⟨s3, cs[j], rfl⟩⟩⟩
        rw [List.length_map, ej]
        exact atI_nat (by rw [List.getElem?_map, List.getElem?_eq_getElem hj]; rfl)
    obtain ⟨s3, ce, rfl⟩ := hv
    have k3 : Kf f H H3 := k2.trans (.of s3)
    have c3 := s3 _ _ c2
    have f3 := s3 _ _ f2
    clear s3 k2 c2 f2
    dsimp only [gName]
    refine if_one ((10 : Int) ^ (18 : Int).toNat ≤ ce ∧ sp < ((cs.map V.int).length : Nat)) (fun Q' hQ => ?_) (fun _ => ?_) (fun _ => ?_)
    · refine ⟨_, rfl, _, _, rfl, rfl, ⟨by decide, by decide, by decide⟩, _, _, rfl, rfl, _, rfl, ite2 (fun e1 => ?_) (fun e1 => ?_)⟩
      · refine ⟨_, rfl, _, rfl, pc, _, rfl, .inl (SqL.of c3), _, _, rfl, rfl, _, rfl, ?_⟩
        rw [show decide (sp < ((cs.map V.int).length : Nat)) = decide ((10 : Int) ^ (18 : Int).toNat ≤ ce ∧ sp < ((cs.map V.int).length : Nat)) from by
          rw [Bool.decide_and, e1, Bool.true_and]]
        exact hQ
      · rw [decide_eq_false (fun z => e1 (decide_eq_true z.1))] at hQ
        exact hQ
    · obtain ⟨r, er, hr⟩ := fm_nat (i := ce) hn
      refine ⟨_, rfl, _, rfl, _, _, rfl, rfl, hnd, _, rfl, f, _, rfl, pL f3, ?_⟩
      obtain ⟨k4, c4⟩ := kp (o := .dK (feedL pc (sp + 1) (ce.fdiv n) (tn + 1))) k3 c3
      refine ⟨_, rfl, .inl ⟨_, rfl, _, rfl, _, _, rfl, rfl, hnz, ?_⟩⟩
      show Q (.int (ce.fmod (n : Nat))) _
      rw [er]
      exact q _ r k4 (fin k4 c4 upd_same) hr
    · obtain ⟨m1, em1, hm1⟩ := fm_nat (i := ce.fmod 1000000409 * 2311 + 92821 * (tn + 1) + 102) (n := 2147483629) (by decide)
      refine ⟨_, rfl, .inl ⟨_, rfl, _, _, rfl, rfl, nz (i := 0) (by decide), _, _, rfl, rfl, .inr ⟨by decide, by decide⟩, _, rfl, f, _, rfl, gT f3, _, _, rfl, rfl, .inl ⟨by decide, by decide⟩, _, _, rfl, rfl, _, _, rfl, rfl, .inl ⟨_, rfl, _, _, rfl, rfl, nz (i := 0) (by decide), ?_⟩⟩⟩
      show gName 6 (.int ((ce.fmod 1000000409 * 2311 + 92821 * (tn + 1) + 102).fmod ((2147483629 : Nat) : Int))) _ _ _
      rw [em1]
      obtain ⟨m2, em2, hm2⟩ := fm_nat (i := (m1 : Int) * m1 + 6311 * (tn + 1) + 89) (n := 2147483587) (by decide)
      refine ⟨_, rfl, _, rfl, _, _, rfl, rfl, .inl ⟨by omega, by omega⟩, _, rfl, f, _, rfl, gT f3, _, _, rfl, rfl, .inl ⟨by decide, by decide⟩, _, _, rfl, rfl, _, _, rfl, rfl, .inl ⟨_, rfl, _, _, rfl, rfl, nz (i := 0) (by decide), ?_⟩⟩
      show gName 6 (.int (((m1 : Int) * m1 + 6311 * (tn + 1) + 89).fmod ((2147483587 : Nat) : Int))) _ _ _
      rw [em2]
      obtain ⟨r, er, hr⟩ := fm_nat (i := (((m2 : Int) * m2 + 389 * m2).fmod 2147483563).fdiv 64) hn
      refine ⟨_, rfl, _, rfl, _, _, rfl, rfl, .inl ⟨by omega, by omega⟩, _, rfl, _, _, rfl, rfl, .inl ⟨by decide, by decide⟩, _, _, rfl, rfl, .inl ⟨_, rfl, _, _, rfl, rfl, nz (i := 0) (by decide), _, _, rfl, rfl, ⟨by decide, by decide⟩, .inl ⟨_, rfl, _, rfl, _, _, rfl, rfl, hnz, ?_⟩⟩⟩
      show Q (.int ((((m2 : Int) * m2 + 389 * m2).fmod 2147483563).fdiv 64 |>.fmod (n : Nat))) _
      rw [er]
      exact q _ r k3 (fin k3 c3 f3) hr
end
end K24
namespace K24
open PySem PySem.Spec PyProof.Rows L2
/-! ### comprehensions that draw -/
section
variable {f pc : Addr} {g : TG} {tt : TT} {te : TE} {vs : List Nat} {σ : L2.St} {H1 : Hp} {D : Addr} {Qd : Hp → Prop} {α β : Type}
theorem lc_rangeF {lo : Int} {n : Nat} (A : α → Prop) (enc : α → PyData) (hF : FeedOk H1 f pc) (hD : H1 D = none) (hz : n < sizeLine)
    (hs : ∀ (i : Nat) (H : Hp) (R : Option V → Hp → Prop), i < n → Kf f H1 H → FeedOk H f pc → (∀ y x H', Kf f H H' → FeedOk H' f pc → Tp H' y (enc x) → A x → R (some y) H') →
      g (.int (lo + i)) (wipe σ vs) H fun σ2 H2 => wipe σ2 vs = wipe σ vs ∧ tt σ2 H2 fun b H3 => if b = true then te σ2 H3 fun y H4 => R (some y) H4 else R none H3)
    (hd : ∀ H acc (l : List α), Kf f H1 H → FeedOk H f pc → H D = some (.lst acc) → TpL H acc (l.map enc) → l.length = n → (∀ x ∈ l, A x) → Qd H) :
    ∃ W : Nat → Nat → Hp → Prop, (∃ m, W 0 m (upd H1 D (.lst []))) ∧ ∀ i m H, W i m H →
      ((Itr lo n).stop i H ∧ Qd H) ∨ ((Itr lo n).go i H ∧ ∃ Nx : Hp → Prop, (∀ H', Nx H' → ∃ m', m' < m ∧ W (i + 1) m' H') ∧ ∀ x H', (Itr lo n).yld i H x H' → g x (wipe σ vs) H' fun σ2 H2 => wipe σ2 vs = wipe σ vs ∧ tt σ2 H2 fun b H3 =>
        if b = true then te σ2 H3 fun y H4 => ∃ acc, H4 D = some (.lst acc) ∧ acc.length < sizeLine ∧ Nx (upd H4 D (.lst (acc ++ [y]))) else Nx H3) := by
  refine lc_range (fun i H => Kf f H1 H ∧ FeedOk H f pc ∧ ∃ acc l, H D = some (.lst acc) ∧ TpL H acc (List.map enc l) ∧ l.length = i ∧ ∀ x ∈ l, A x) ⟨(Kf.refl _).mut hD, hF.new hD, [], [], upd_same, .nil, rfl, fun _ h => nomatch h⟩ (fun i H hi h => ?_) fun H h => ?_
  · obtain ⟨k, F, acc, l, hacc, ht, hl, hA⟩ := h
    refine hs i H (fun o H' => match o with
      | none => Kf f H1 H' ∧ FeedOk H' f pc ∧ ∃ acc l, H' D = some (.lst acc) ∧ TpL H' acc (List.map enc l) ∧ l.length = i + 1 ∧ ∀ x ∈ l, A x
      | some y => ∃ acc, H' D = some (.lst acc) ∧ acc.length < sizeLine ∧ (Kf f H1 (upd H' D (.lst (acc ++ [y]))) ∧ FeedOk (upd H' D (.lst (acc ++ [y]))) f pc ∧ ∃ acc' l, upd H' D (.lst (acc ++ [y])) D = some (.lst acc') ∧ TpL (upd H' D (.lst (acc ++ [y]))) acc' (List.map enc l) ∧ l.length = i + 1 ∧ ∀ x ∈ l, A x))
      hi k F fun y x H' k' F' ty hx => ?_
    have hD' := F.lst k' hacc
    have ha : acc.length = i := by rw [ht.length, List.length_map, hl]
    refine ⟨acc, hD', by omega, (k.trans k').mut hD, F'.mut hF hD, acc ++ [y], l ++ [x], upd_same, ?_, by rw [List.length_append, List.length_singleton, hl], fun z hz => ?_⟩
    · rw [List.map_append]
      exact ((ht.keep (F.kt k')).snoc ty).keep (.lst hD')
    · rcases List.mem_append.mp hz with h | h
      · exact hA z h
      · rw [List.mem_singleton.mp h]; exact hx
  · obtain ⟨k, F, acc, l, hacc, ht, hl, hA⟩ := h
    exact hd H acc l k F hacc ht hl hA
theorem lc_tupF {K : PySem.W.Frag} {a : Addr} {xs : List V} {bs : List β} (A : β → α → Prop) (encB : β → PyData) (enc : α → PyData) (hF : FeedOk H1 f pc) (hD : H1 D = none) (hL : H1 a = some (.tup xs)) (hT : TpL H1 xs (bs.map encB)) (hz : bs.length < sizeLine)
    (hs : ∀ (x : V) (d : β) (H : Hp) (R : Option V → Hp → Prop), d ∈ bs → Kf f H1 H → FeedOk H f pc → Tp H x (encB d) → (∀ y e H', Kf f H H' → FeedOk H' f pc → Tp H' y (enc e) → A d e → R (some y) H') →
      g x (wipe σ vs) H fun σ2 H2 => wipe σ2 vs = wipe σ vs ∧ tt σ2 H2 fun b H3 => if b = true then te σ2 H3 fun y H4 => R (some y) H4 else R none H3)
    (hd : ∀ H acc (l : List α), Kf f H1 H → FeedOk H f pc → H D = some (.lst acc) → TpL H acc (l.map enc) → l.length = bs.length → (∀ e ∈ l, ∃ d ∈ bs, A d e) → Qd H) :
    ∃ W : Nat → Nat → Hp → Prop, (∃ m, W 0 m (upd H1 D (.lst []))) ∧ ∀ i m H, W i m H →
      ((Itt K a).stop i H ∧ Qd H) ∨ ((Itt K a).go i H ∧ ∃ Nx : Hp → Prop, (∀ H', Nx H' → ∃ m', m' < m ∧ W (i + 1) m' H') ∧ ∀ x H', (Itt K a).yld i H x H' → g x (wipe σ vs) H' fun σ2 H2 => wipe σ2 vs = wipe σ vs ∧ tt σ2 H2 fun b H3 =>
        if b = true then te σ2 H3 fun y H4 => ∃ acc, H4 D = some (.lst acc) ∧ acc.length < sizeLine ∧ Nx (upd H4 D (.lst (acc ++ [y]))) else Nx H3) := by
  have hlen : xs.length = bs.length := by rw [hT.length, List.length_map]
  refine lc_tup (xs := xs) (fun i H => Kf f H1 H ∧ FeedOk H f pc ∧ ∃ acc l, H D = some (.lst acc) ∧ TpL H acc (List.map enc l) ∧ l.length = i ∧ ∀ e ∈ l, ∃ d ∈ bs, A d e) ⟨(Kf.refl _).mut hD, hF.new hD, [], [], upd_same, .nil, rfl, fun _ h => nomatch h⟩ (fun i H _ h => SqT.of (hF.kt h.1 _ _ hL)) (fun i x H hi h => ?_) fun H h => ?_
  · obtain ⟨k, F, acc, l, hacc, ht, hl, hA⟩ := h
    obtain ⟨d0, hd0, hx⟩ := hT.get' hi
    rw [List.getElem?_map] at hd0
    obtain ⟨d, hd', rfl⟩ := Option.map_eq_some_iff.mp hd0
    have hi2 := (List.getElem?_eq_some_iff.mp hd').1
    refine hs x d H (fun o H' => match o with
      | none => Kf f H1 H' ∧ FeedOk H' f pc ∧ ∃ acc l, H' D = some (.lst acc) ∧ TpL H' acc (List.map enc l) ∧ l.length = i + 1 ∧ ∀ e ∈ l, ∃ d ∈ bs, A d e
      | some y => ∃ acc, H' D = some (.lst acc) ∧ acc.length < sizeLine ∧ (Kf f H1 (upd H' D (.lst (acc ++ [y]))) ∧ FeedOk (upd H' D (.lst (acc ++ [y]))) f pc ∧ ∃ acc' l, upd H' D (.lst (acc ++ [y])) D = some (.lst acc') ∧ TpL (upd H' D (.lst (acc ++ [y]))) acc' (List.map enc l) ∧ l.length = i + 1 ∧ ∀ e ∈ l, ∃ d ∈ bs, A d e))
      (List.mem_of_getElem? hd') k F (hx.keep (hF.kt k)) fun y e H' k' F' ty he => ?_
    have hD' := F.lst k' hacc
    have ha : acc.length = i := by rw [ht.length, List.length_map, hl]
    refine ⟨acc, hD', by omega, (k.trans k').mut hD, F'.mut hF hD, acc ++ [y], l ++ [e], upd_same, ?_, by rw [List.length_append, List.length_singleton, hl], fun z hz => ?_⟩
    · rw [List.map_append]
      exact ((ht.keep (F.kt k')).snoc ty).keep (.lst hD')
    · rcases List.mem_append.mp hz with h | h
      · exact hA z h
      · rw [List.mem_singleton.mp h]; exact ⟨d, List.mem_of_getElem? hd', he⟩
  · obtain ⟨k, F, acc, l, hacc, ht, hl, hA⟩ := h
    exact hd H acc l k F hacc ht (hl.trans hlen) hA
end
/-! ### what is drawn -/
structure Tiny (R : Rule) : Prop where
  wf : R.WF
  n : R.ms.length ≤ 10
  N : R.N ≤ 10
  b : ∀ m ∈ R.ms, -20 ≤ m ∧ m ≤ 20
theorem mkAt_mem {ms : List Int} {g : Nat} (h : g < ms.length) : mkAt ms g ∈ ms := by
  unfold mkAt
  rw [List.getD_eq_getElem?_getD, List.getElem?_eq_getElem h]
  exact List.getElem_mem h
theorem Tiny.small {R : Rule} (t : Tiny R) : Small R 40 := ⟨t.wf, t.n, t.N, ⟨fun g h0 h1 => by
  have h2 := t.b _ (mkAt_mem h1)
  have h3 := t.b _ (mkAt_mem (show g - 1 < R.ms.length by omega))
  omega⟩, by decide, by decide⟩
def PhOk (N : Nat) (P : List (Mv × Nat)) : Prop := P.length = 3 ∧ ∀ x ∈ P, x.2 < N
def encP (P : List (Mv × Nat)) : PyData := .tuple (P.map encPair)
section
variable {P : Program} {w : World} {K : PySem.W.Frag} {mg : Str → Option Value} {base : Heap} {aC aP fA fS : Addr} {f : Addr} {fd : FuncData}
def sp_pick : Sp := fun vs H Q _ => ∃ (f pc l : Addr) (xs : List V), vs = [.ref f, .ref l] ∧ FeedOk H f pc ∧ H l = some (.lst xs) ∧ 0 < xs.length ∧ xs.length ≤ 1000 ∧ ∀ H' v, Kf f H H' → FeedOk H' f pc → v ∈ xs → Q v H'
theorem ok_law_pick (T : Txt K w mg aC aP fA fS) (c_law_draw : Cal P w K mg base 1 "_law_draw" sp_draw) (D : Dfn K mg "_law_pick" s_law_pick f fd ["_law_feed_here", "_law_some"]) : FnOk P w K mg base L2.CX0 2 f fd ["_law_feed_here", "_law_some"] sp_pick := by
  refine fnok_of D sc_law_pick (fun vs H Q E h => by obtain ⟨f, pc, l, xs, rfl, _⟩ := h; rfl) (fun cdv A outer s H vs Q E hr h => ?_)
  obtain ⟨f, pc, l, xs, rfl, hF, hl, h0, h1, q⟩ := h
  refine ⟨_, (pss_one (ps_ret (pe_ix (r := rIxL K) ix_list (pv 1) (pe_c c_law_draw hr (by decide) (by rfl) (pa_cons (pv 0) (pa_cons (pe_callB (r := rLen K) cLen (by rfl) T.len (by decide +kernel) (pa_cons (pv 1) pa_nil)) pa_nil))) (fun _ _ => rfl)))), ?_⟩
  refine ⟨_, rfl, _, rfl, _, rfl, l, _, rfl, .inl (SqL.of hl), f, pc, xs.length, rfl, hF, h0, h1, fun H1 r k F hr => ?_⟩
  exact ⟨l, xs, _, xs[r], rfl, rfl, SqL.of (hF.lst k hl), atI_nat (List.getElem?_eq_getElem hr), q _ _ k F (List.getElem_mem hr)⟩
def sp_tops : Sp := fun vs H Q _ => ∃ f pc n wd, vs = [.ref f, .int (n : Nat), .int (wd : Nat)] ∧ FeedOk H f pc ∧ n ≤ 2 ∧ 0 < wd ∧ wd ≤ 4 ∧ ∀ H' v (ms : List Int), Kf f H H' → FeedOk H' f pc → Tp H' v (encMarks ms) → ms.Pairwise (· < ·) → ms.length ≤ 2 → (∀ m ∈ ms, -20 ≤ m ∧ m ≤ 20) → Q v H'
theorem ok_law_tops (T : Txt K w mg aC aP fA fS) (c_law_draw : Cal P w K mg base 1 "_law_draw" sp_draw) (D : Dfn K mg "_law_tops" s_law_tops f fd ["_law_feed_here", "_law_most", "_law_wide"]) : FnOk P w K mg base L2.CX0 2 f fd ["_law_feed_here", "_law_most", "_law_wide"] sp_tops := by
  refine fnok_of D sc_law_tops (fun vs H Q E h => by obtain ⟨f, pc, n, wd, rfl, _⟩ := h; rfl) (fun cdv A outer s H vs Q E hr h => ?_)
  obtain ⟨f, pc, n, wd, rfl, hF, hn, hw0, hw, q⟩ := h
  refine ⟨_, (pss_cons (ps_par (i := 3) (j := 4) rfl sc_law_tops.nd rfl rfl (by decide) rfl rfl (pa_cons (pe_lst pa_nil) (pa_cons (pe_op op_sub (pe_c c_law_draw hr (by decide) (by rfl) (pa_cons (pv 0) (pa_cons pe_int pa_nil))) pe_int) pa_nil)) (by rfl))
      (pss_cons (ps_for PassesOwn.never rfl (pi_range1 (by rfl) T.range (pa_cons (pe_c c_law_draw hr (by decide) (by rfl) (pa_cons (pv 0) (pa_cons (pe_op op_add (pv 1) pe_int) pa_nil))) pa_nil)) (pg_name (i := 5) sc_law_tops.nd rfl (.inl rfl))
      (pss_cons (ps_expr (pe_bm PySem.F.plainAttrs_list PySem.F.slot_list_append PySem.F.type_list_append mt_append (pv 3) (pa_cons (pv 4) pa_nil)))
      (pss_one (ps_set (i := 4) sc_law_tops.nd rfl (.inl rfl) (pe_op op_add (pe_op op_add (pv 4) pe_int) (pe_c c_law_draw hr (by decide) (by rfl) (pa_cons (pv 0) (pa_cons (pv 2) pa_nil))))))))
      (pss_one (ps_ret (pe_callTy (r := rTup K) cTup (by rfl) T.tuple (by decide +kernel) (pa_cons (pv 3) pa_nil)))))), ?_⟩
  refine ⟨small100 (by show 0 ≤ 1000000; decide), fun o ho => ?_⟩
  have s1 := same_upd (o := .lst []) ho
  refine ⟨_, rfl, f, pc, 9, rfl, hF.same s1, by decide, by decide, fun H2 r k2 F2 hr2 => ⟨_, _, rfl, rfl, _, _, rfl, ?_⟩⟩
  have k02 : Kf f H H2 := (Kf.of s1).trans k2
  have o2 : H2 o = some (.lst []) := (hF.same s1).lst k2 upd_same
  refine ⟨_, rfl, _, rfl, _, _, rfl, rfl, f, pc, n + 1, rfl, F2, by omega, by omega, fun H3 m k3 F3 hm => ?_⟩
  refine ⟨_, rfl, by omega, by omega, ?_⟩
  refine for_range (fun i σ H4 => ∃ y5, ∃ at' : Int, ∃ ms : List Int, σ = [some (.ref f), some (.int (n : Nat)), some (.int (wd : Nat)), some (.ref o), some (.int at'), y5] ∧ Kf f H H4 ∧ FeedOk H4 f pc ∧ H4 o = some (.lst (ms.map V.int)) ∧ ms.Pairwise (· < ·) ∧ ms.length = i ∧ (∀ x ∈ ms, -20 ≤ x ∧ x < at') ∧ -4 ≤ at' ∧ at' ≤ 4 + 5 * i)
    ⟨none, (r : Int) - 4, [], rfl, k02.trans k3, F3, F2.lst k3 o2, .nil, rfl, (fun _ h => nomatch h), by omega, by omega⟩ (fun i σ H4 hi hP => ?_) (fun σ H4 hP => ?_)
  · obtain ⟨y5, at', ms, rfl, k4, F4, o4, pw, hl, hb, hlo, hhi⟩ := hP
    refine ⟨_, rfl, .inl ⟨rfl, _, SqL.of o4⟩, _, rfl, o, _, _, rfl, rfl, o4, small100' (by rw [List.length_map]; omega), ?_⟩
    have F5 : FeedOk (upd H4 o (.lst (ms.map V.int ++ [.int at']))) f pc := F4.mut hF ho
    refine ⟨_, rfl, _, _, rfl, rfl, _, rfl, _, rfl, f, pc, wd, rfl, F5, hw0, by omega, fun H6 j k6 F6 hj => ⟨_, _, rfl, rfl, _, _, ms ++ [at'], rfl, (k4.mut ho).trans k6, F6, ?_, ?_, ?_, ?_, by omega, by omega⟩⟩
    · rw [List.map_append]; exact F5.lst k6 upd_same
    · refine List.pairwise_append.mpr ⟨pw, List.pairwise_singleton _ _, fun a ha b hb' => ?_⟩
      rw [List.mem_singleton.mp hb']; exact (hb a ha).2
    · rw [List.length_append, List.length_singleton, hl]
    · intro x hx
      rcases List.mem_append.mp hx with h | h
      · have := hb x h; omega
      · rw [List.mem_singleton.mp h]; omega
  · obtain ⟨y5, at', ms, rfl, k4, F4, o4, pw, hl, hb, hlo, hhi⟩ := hP
    refine ⟨_, rfl, o, _, rfl, .inl ⟨SqL.of o4, fun p hp => ?_⟩⟩
    have s5 := same_upd (o := .tup (ms.map V.int)) hp
    exact q _ _ ms (k4.trans (.of s5)) (F4.same s5) (marks_mk upd_same) pw (by omega) fun x hx => by have := hb x hx; omega
end
end K24
namespace K24
open PySem PySem.Spec PyProof.Rows L2
def MvL (xs : List V) : Prop := xs.length = 4 ∧ ∀ v ∈ xs, ∃ m : Mv, v = .str (mvS m)
theorem mvl_of {a b c d : Mv} : MvL [.str (mvS a), .str (mvS b), .str (mvS c), .str (mvS d)] := ⟨rfl, fun v h => by
  simp only [List.mem_cons, List.not_mem_nil, or_false] at h
  rcases h with h | h | h | h
  · exact ⟨a, h⟩
  · exact ⟨b, h⟩
  · exact ⟨c, h⟩
  · exact ⟨d, h⟩⟩
theorem tp_phases {H : Hp} {xs : List V} {ph : List (List (Mv × Nat))} {a : Addr} (h : H a = some (.tup xs)) (t : TpL H xs (ph.map encP)) : Tp H (.ref a) (encPhases ph) := .tup h t
section
variable {P : Program} {w : World} {K : PySem.W.Frag} {mg : Str → Option Value} {base : Heap} {aC aP fA fS : Addr} {f : Addr} {fd : FuncData}
def sp_plan : Sp := fun vs H Q _ => ∃ f pc n wd sz, vs = [.ref f, .int (n : Nat), .int (wd : Nat), .int (sz : Nat)] ∧ FeedOk H f pc ∧ n ≤ 2 ∧ 0 < wd ∧ wd ≤ 4 ∧ 0 < sz ∧ sz ≤ 6 ∧
  ∀ H' v R, Kf f H H' → FeedOk H' f pc → Tp H' v (encRule R) → Tiny R → Q v H'
theorem ok_law_plan (T : Txt K w mg aC aP fA fS) (c_law_draw : Cal P w K mg base 1 "_law_draw" sp_draw) (c_law_pick : Cal P w K mg base 2 "_law_pick" sp_pick) (c_law_tops : Cal P w K mg base 2 "_law_tops" sp_tops) (D : Dfn K mg "_law_plan" s_law_plan f fd ["_law_feed_here", "_law_most", "_law_wide", "_law_size"]) :
    FnOk P w K mg base L2.CX0 3 f fd ["_law_feed_here", "_law_most", "_law_wide", "_law_size"] sp_plan := by
  refine fnok_of D sc_law_plan (fun vs H Q E h => by obtain ⟨f, pc, n, wd, sz, rfl, _⟩ := h; rfl) (fun cdv A outer s H vs Q E hr h => ?_)
  obtain ⟨f, pc, n, wd, sz, rfl, hF, hn, hw0, hw, hs0, hs, q⟩ := h
  refine ⟨_, (pss_cons (ps_asg (pe_tup (pa_cons (pe_op op_add pe_int (pe_c c_law_draw hr (by decide) (by rfl) (pa_cons (pv 0) (pa_cons (pv 3) pa_nil)))) (pa_cons (pe_c c_law_draw hr (by decide) (by rfl) (pa_cons (pv 0) (pa_cons pe_int pa_nil))) pa_nil))) (pg_tup rfl (pgs_cons (pg_name (i := 4) sc_law_plan.nd rfl (.inr rfl)) (pgs_cons (pg_name (i := 5) sc_law_plan.nd rfl (.inl rfl)) pgs_nil))))
      (pss_cons (ps_set (i := 6) sc_law_plan.nd rfl (.inr rfl) (pe_lst (pa_cons (pe_lst (pa_cons pe_str (pa_cons pe_str (pa_cons pe_str (pa_cons pe_str pa_nil))))) (pa_cons (pe_lst (pa_cons pe_str (pa_cons pe_str (pa_cons pe_str (pa_cons pe_str pa_nil))))) (pa_cons (pe_lst (pa_cons pe_str (pa_cons pe_str (pa_cons pe_str (pa_cons pe_str pa_nil))))) pa_nil)))))
      (pss_cons (ps_set (i := 6) sc_law_plan.nd rfl (.inr rfl) (pe_ix (r := rIxL K) ix_list (pe_op op_cat (pv 6) (pe_lst (pa_cons (pe_lst (pa_cons pe_str (pa_cons pe_str (pa_cons pe_str (pa_cons pe_str pa_nil))))) pa_nil))) (pv 5) (fun _ _ => rfl)))
      (pss_cons (ps_set (i := 7) sc_law_plan.nd rfl (.inl rfl) (pe_lst pa_nil))
      (pss_cons (ps_for PassesOwn.never rfl (pi_range1 (by rfl) T.range (pa_cons (pv 4) pa_nil)) (pg_name (i := 8) sc_law_plan.nd rfl (.inl rfl))
      (pss_one (ps_expr (pe_bm PySem.F.plainAttrs_list PySem.F.slot_list_append PySem.F.type_list_append mt_append (pv 7) (pa_cons (pe_callTy (r := rTup K) cTup (by rfl) T.tuple (by decide +kernel) (pa_cons (pe_lc (own := [("_law_k", 9)]) (g := gName 9) rfl sc_law_plan.nd (pi_range1 (by rfl) T.range (pa_cons pe_int pa_nil)) (blkOk_by (own := [("_law_k", 9)]) (N := N_law_plan) (sc := defScope s_law_plan) (by decide +kernel)) (fun _ _ _ _ _ => (pg_name (i := 9) sc_law_plan.nd rfl (.inl rfl))) (fun _ _ _ _ _ => pts_nil) (fun _ _ _ _ _ => (pe_tup (pa_cons (pe_c c_law_pick hr (by decide) (by rfl) (pa_cons (pv 0) (pa_cons (pv 6) pa_nil))) (pa_cons (pe_c c_law_draw hr (by decide) (by rfl) (pa_cons (pv 0) (pa_cons (pv 4) pa_nil))) pa_nil))))) pa_nil)) pa_nil)))))
      (pss_one (ps_ret (pe_tup (pa_cons (pe_c c_law_tops hr (by decide) (by rfl) (pa_cons (pv 0) (pa_cons (pv 1) (pa_cons (pv 2) pa_nil)))) (pa_cons (pe_callTy (r := rTup K) cTup (by rfl) T.tuple (by decide +kernel) (pa_cons (pv 7) pa_nil)) pa_nil)))))))))), ?_⟩
  -- many, lean
  refine ⟨_, rfl, _, rfl, f, pc, sz, rfl, hF, hs0, by omega, fun H1 r k1 F1 hr1 => ⟨_, _, rfl, rfl, _, rfl, f, pc, 4, rfl, F1, by decide, by decide, fun H2 lean k2 F2 hlean => ⟨small100 (by show 2 ≤ 1000000; decide), fun p hp => ?_⟩⟩⟩
  have s3 := same_upd (o := .tup [.int (1 + (r : Nat)), .int (lean : Nat)]) hp
  have k3 : Kf f H (upd H2 p (.tup [.int (1 + (r : Nat)), .int (lean : Nat)])) := (k1.trans k2).trans (.of s3)
  have F3 := F2.same s3
  refine ⟨p, _, rfl, SqT.of upd_same, rfl, _, _, rfl, _, _, rfl, rfl, ?_⟩
  generalize upd H2 p (.tup [.int (1 + (r : Nat)), .int (lean : Nat)]) = H3 at k3 F3 ⊢
  -- moves
  refine ⟨small100 (by show 4 ≤ 1000000; decide), fun p1 h1 => ⟨small100 (by show 4 ≤ 1000000; decide), fun p2 h2 => ⟨small100 (by show 4 ≤ 1000000; decide), fun p3 h3 => ⟨small100 (by show 3 ≤ 1000000; decide), fun p4 h4 => ?_⟩⟩⟩⟩
  have m1 : MvL [.str "take", .str "next", .str "out", .str "wait"] := mvl_of (a := .take) (b := .next) (c := .out) (d := .wait)
  have m2 : MvL [.str "take", .str "take", .str "wait", .str "out"] := mvl_of (a := .take) (b := .take) (c := .wait) (d := .out)
  have m3 : MvL [.str "wait", .str "wait", .str "take", .str "next"] := mvl_of (a := .wait) (b := .wait) (c := .take) (d := .next)
  have m4 : MvL [.str "next", .str "out", .str "take", .str "take"] := mvl_of (a := .next) (b := .out) (c := .take) (d := .take)
  have t1 := same_upd (o := .lst [.str "take", .str "next", .str "out", .str "wait"]) h1
  have e1 : (upd H3 p1 (.lst [.str "take", .str "next", .str "out", .str "wait"])) p1 = some (.lst [.str "take", .str "next", .str "out", .str "wait"]) := upd_same
  generalize upd H3 p1 (.lst [.str "take", .str "next", .str "out", .str "wait"]) = G1 at t1 e1 h2 h3 h4 ⊢
  have t2 := same_upd (o := .lst [.str "take", .str "take", .str "wait", .str "out"]) h2
  have e2 : (upd G1 p2 (.lst [.str "take", .str "take", .str "wait", .str "out"])) p2 = some (.lst [.str "take", .str "take", .str "wait", .str "out"]) := upd_same
  generalize upd G1 p2 (.lst [.str "take", .str "take", .str "wait", .str "out"]) = G2 at t2 e2 h3 h4 ⊢
  have t3 := same_upd (o := .lst [.str "wait", .str "wait", .str "take", .str "next"]) h3
  have e3 : (upd G2 p3 (.lst [.str "wait", .str "wait", .str "take", .str "next"])) p3 = some (.lst [.str "wait", .str "wait", .str "take", .str "next"]) := upd_same
  generalize upd G2 p3 (.lst [.str "wait", .str "wait", .str "take", .str "next"]) = G3 at t3 e3 h4 ⊢
  have t4 := same_upd (o := .lst [.ref p1, .ref p2, .ref p3]) h4
  have e4 : (upd G3 p4 (.lst [.ref p1, .ref p2, .ref p3])) p4 = some (.lst [.ref p1, .ref p2, .ref p3]) := upd_same
  generalize upd G3 p4 (.lst [.ref p1, .ref p2, .ref p3]) = G4 at t4 e4 ⊢
  dsimp only [gName]
  refine asg_cut (fun v H5 => Same G4 H5 ∧ ∃ l xs, v = .ref l ∧ H5 l = some (.lst xs) ∧ MvL xs) (fun Q' hQ => ?_) (fun v H5 hv => ?_)
  · refine ⟨_, rfl, small100 (by show 4 ≤ 1000000; decide), fun p5 h5 => ⟨small100 (by show 1 ≤ 1000000; decide), fun p6 h6 => ?_⟩⟩
    have t5 := same_upd (o := .lst [.str "next", .str "out", .str "take", .str "take"]) h5
    have t6 := same_upd (o := .lst [.ref p5]) h6
    refine ⟨p4, p6, _, _, rfl, rfl, t6 _ _ (t5 _ _ e4), upd_same, small100 (by show 4 ≤ 1000000; decide), fun p7 h7 => ?_⟩
    have t7 := same_upd (o := .lst [.ref p1, .ref p2, .ref p3, .ref p5]) h7
    have s8 := t5.trans (t6.trans t7)
    refine ⟨_, rfl, ?_⟩
    match lean, hlean with
    | 0, _ => exact ⟨p7, _, _, _, rfl, rfl, SqL.of upd_same, at_of (j := 0) rfl rfl, hQ _ _ ⟨s8, p1, _, rfl, s8 _ _ (t4 _ _ (t3 _ _ (t2 _ _ e1))), m1⟩⟩
    | 1, _ => exact ⟨p7, _, _, _, rfl, rfl, SqL.of upd_same, at_of (j := 1) rfl rfl, hQ _ _ ⟨s8, p2, _, rfl, s8 _ _ (t4 _ _ (t3 _ _ e2)), m2⟩⟩
    | 2, _ => exact ⟨p7, _, _, _, rfl, rfl, SqL.of upd_same, at_of (j := 2) rfl rfl, hQ _ _ ⟨s8, p3, _, rfl, s8 _ _ (t4 _ _ e3), m3⟩⟩
    | 3, _ => exact ⟨p7, _, _, _, rfl, rfl, SqL.of upd_same, at_of (j := 3) rfl rfl, hQ _ _ ⟨s8, p5, _, rfl, t7 _ _ (t6 _ _ upd_same), m4⟩⟩
  obtain ⟨s5, l, xs, rfl, hl, hm⟩ := hv
  have k5 : Kf f H H5 := k3.trans (.of (t1.trans (t2.trans (t3.trans (t4.trans s5)))))
  have F5 : FeedOk H5 f pc := F3.same (t1.trans (t2.trans (t3.trans (t4.trans s5))))
  clear k1 F1 k2 F2 s3 k3 F3 h1 h2 h3 h4 t1 t2 t3 t4 e1 e2 e3 e4 s5 m1 m2 m3 m4 hp
  -- found = []
  refine ⟨small100 (by show 0 ≤ 1000000; decide), fun o ho => ?_⟩
  have s6 := same_upd (o := .lst []) ho
  refine ⟨_, rfl, _, rfl, by omega, by omega, ?_⟩
  have eN : (1 + (r : Int)).toNat = r + 1 := by omega
  have eV : (1 + (r : Int)) = ((r + 1 : Nat) : Int) := by omega
  rw [eN, eV]
  refine for_range (fun i σ H6 => ∃ y8 y9 acc, ∃ ph : List (List (Mv × Nat)), σ = [some (.ref f), some (.int (n : Nat)), some (.int (wd : Nat)), some (.int (sz : Nat)), some (.int (r + 1 : Nat)), some (.int (lean : Nat)), some (.ref l), some (.ref o), y8, y9] ∧
      Kf f H H6 ∧ FeedOk H6 f pc ∧ H6 l = some (.lst xs) ∧ H6 o = some (.lst acc) ∧ TpL H6 acc (ph.map encP) ∧ ph.length = i ∧ ∀ P ∈ ph, PhOk (r + 1) P)
    ⟨none, none, [], [], rfl, k5.trans (.of s6), F5.same s6, s6 _ _ hl, upd_same, .nil, rfl, fun _ h => nomatch h⟩ (fun i σ H6 hi hP => ?_) (fun σ H6 hP => ?_)
  · obtain ⟨y8, y9, acc, ph, rfl, k6, F6, hl6, ho6, ht, hlen, hph⟩ := hP
    refine ⟨_, rfl, .inl ⟨rfl, _, SqL.of ho6⟩, _, rfl, by decide, by decide, fun D hD => ?_⟩
    refine lc_rangeF (α := Mv × Nat) (fun x => x.2 < r + 1) encPair F6 hD (small100' (by decide)) (fun j H7 R' hj k7 F7 hR => ?_) (fun H7 acc7 l7 k7 F7 e7 t7 len7 A7 => ?_)
    · refine ⟨rfl, _, rfl, _, rfl, f, pc, l, xs, rfl, F7, F6.lst k7 hl6, by rw [hm.1]; decide, by rw [hm.1]; decide, fun H8 v k8 F8 hv => ?_⟩
      obtain ⟨mv, rfl⟩ := hm.2 v hv
      refine ⟨_, rfl, _, rfl, f, pc, r + 1, rfl, F8, by omega, by omega, fun H9 x k9 F9 hx => ⟨small100 (by show 2 ≤ 1000000; decide), fun c hc => ?_⟩⟩
      have s10 := same_upd (o := .tup [.str (mvS mv), .int (x : Nat)]) hc
      exact hR _ (mv, x) _ ((k8.trans k9).trans (.of s10)) (F9.same s10) (.tup upd_same (.two (.str _) (.int _))) hx
    · refine ⟨D, acc7, rfl, .inl ⟨SqL.of e7, fun c hc => ?_⟩⟩
      have s8 := same_upd (o := .tup acc7) hc
      have o8 := s8 _ _ (F6.lst k7 ho6)
      refine ⟨o, acc, .ref c, rfl, rfl, o8, small100' (by rw [ht.length, List.length_map, hlen]; omega), _, _, _, ph ++ [l7], rfl, (k6.trans (k7.trans (.of s8))).mut ?_, ?_, ?_, upd_same, ?_, ?_, ?_⟩
      · exact k5.free ho F5.ne
      · exact (F7.same s8).mut F5 ho
      · rw [upd_ne (fun z => by rw [z, ho] at hl; cases hl)]; exact s8 _ _ (F6.lst k7 hl6)
      · rw [List.map_append]
        refine TpL.keep (.lst o8) ((ht.keep ((F6.kt k7).trans (.of s8))).app (.one (.tup upd_same (t7.keep (.of s8)))))
      · rw [List.length_append, List.length_singleton, hlen]
      · intro P hP
        rcases List.mem_append.mp hP with h | h
        · exact hph P h
        · rw [List.mem_singleton.mp h]; exact ⟨len7, A7⟩
  · obtain ⟨y8, y9, acc, ph, rfl, k6, F6, hl6, ho6, ht, hlen, hph⟩ := hP
    refine ⟨_, rfl, _, rfl, _, rfl, f, pc, n, wd, rfl, F6, hn, hw0, hw, fun H7 v ms k7 F7 tv pw hml hmb => ?_⟩
    refine ⟨_, rfl, o, acc, rfl, .inl ⟨SqL.of (F6.lst k7 ho6), fun c hc => ⟨small100 (by show 2 ≤ 1000000; decide), fun d hd => ?_⟩⟩⟩
    have s8 := same_upd (o := .tup acc) hc
    have s9 := same_upd (o := .tup [v, .ref c]) hd
    have t8 : Tp (upd (upd H7 c (.tup acc)) d (.tup [v, .ref c])) (.ref c) (encPhases ph) := .tup (s9 _ _ upd_same) (ht.keep ((F6.kt k7).trans (.of (s8.trans s9))))
    refine q _ _ ⟨ms, ph⟩ (k6.trans (k7.trans (.of (s8.trans s9)))) (F7.same (s8.trans s9)) (.tup upd_same (.two (tv.keep (.of (s8.trans s9))) t8)) ⟨⟨pw, ?_, ?_⟩, by show ms.length ≤ 10; omega, ?_, hmb⟩
    · show 0 < ph.length; omega
    · intro P hP
      obtain ⟨h1, h2⟩ := hph P hP
      exact ⟨h1, fun x hx => by have := h2 x hx; show x.2 < ph.length; omega⟩
    · show ph.length ≤ 10; omega
end
end K24
namespace K24
open PySem PySem.Spec PyProof.Rows L2
/-- a statement, then the rest: what is true between them -/
theorem seq_cut {t rest : TS} {D : Ends} {σ : L2.St} {H : Hp} (Pv : L2.St → Hp → Prop) (h1 : ∀ D' : Ends, (∀ σ' H', Pv σ' H' → D'.nx σ' H') → t D' σ H) (h2 : ∀ σ' H', Pv σ' H' → rest D σ' H') : tSeq t rest D σ H := h1 _ h2
theorem TpL.snoc_inv {H : Hp} {d : PyData} : ∀ {ds : List PyData} {vs : List V}, TpL H vs (ds ++ [d]) → ∃ ws v, vs = ws ++ [v] ∧ TpL H ws ds ∧ Tp H v d
  | [], _, h => by
    cases h with
    | cons h1 h2 => cases h2; exact ⟨[], _, rfl, .nil, h1⟩
  | e :: ds, _, h => by
    cases h with
    | cons h1 h2 =>
      obtain ⟨ws, v, rfl, h3, h4⟩ := TpL.snoc_inv h2
      exact ⟨_ :: ws, v, rfl, .cons h1 h3, h4⟩
theorem phase_inv {H : Hp} {v : V} {P : List (Mv × Nat)} (h : Tp H v (encP P)) (h3 : P.length = 3) : ∃ a x y z m0 m1 m2, P = [m0, m1, m2] ∧ v = .ref a ∧ H a = some (.tup [x, y, z]) ∧ Tp H x (encPair m0) ∧ Tp H y (encPair m1) ∧ Tp H z (encPair m2) := by
  match P, h3 with
  | [m0, m1, m2], _ =>
    obtain ⟨a, xs, rfl, h1, h2⟩ := h.tup_inv
    cases h2 with
    | cons a1 h2 =>
      cases h2 with
      | cons a2 h2 =>
        cases h2 with
        | cons a3 h2 =>
          cases h2
          exact ⟨a, _, _, _, m0, m1, m2, rfl, rfl, h1, a1, a2, a3⟩
section
variable {P : Program} {w : World} {K : PySem.W.Frag} {mg : Str → Option Value} {base : Heap} {aC aP fA fS : Addr} {f : Addr} {fd : FuncData}
def sp_chain : Sp := fun vs H Q _ => ∃ n k vp, ∃ m : Mv × Nat, vs = [.int (n : Nat), .int (k : Nat), .str "wait", vp] ∧ Tp H vp (encPair m) ∧ m.2 < n ∧ 1 ≤ n ∧ n ≤ 10 ∧ k < 3 ∧
  ∀ H' v (ph : List (List (Mv × Nat))), Same H H' → Tp H' v (encPhases ph) → ph.length = n → (∀ P ∈ ph, PhOk n P) → Q v H'
theorem ok_law_chain (T : Txt K w mg aC aP fA fS) (D : Dfn K mg "_law_chain" s_law_chain f fd ["_law_many", "_law_k", "_law_move", "_law_last"]) : FnOk P w K mg base L2.CX0 1 f fd ["_law_many", "_law_k", "_law_move", "_law_last"] sp_chain := by
  refine fnok_of D sc_law_chain (fun vs H Q E h => by obtain ⟨n, k, vp, m, rfl, _⟩ := h; rfl) (fun cdv A outer s H vs Q E hr h => ?_)
  obtain ⟨n, k, vp, m, rfl, hp, hm, h1n, hn, hk, q⟩ := h
  refine ⟨_, (pss_cons (ps_par (i := 4) (j := 5) rfl sc_law_chain.nd rfl rfl (by decide) rfl rfl (pa_cons (pe_lst pa_nil) (pa_cons (pe_tup (pa_cons pe_str (pa_cons pe_int pa_nil))) pa_nil)) (by rfl))
      (pss_cons (ps_for PassesOwn.never rfl (pi_range1 (by rfl) T.range (pa_cons (pv 0) pa_nil)) (pg_name (i := 6) sc_law_chain.nd rfl (.inl rfl))
      (pss_cons (ps_set (i := 7) sc_law_chain.nd rfl (.inl rfl) (pe_ifExp (pt_cmpR op_lt (pe_op op_add (pv 6) pe_int) (pv 0) (nomark _)) (pe_tup (pa_cons (pv 2) (pa_cons (pe_op op_add (pv 6) pe_int) pa_nil))) (pv 3)))
      (pss_one (ps_expr (pe_bm PySem.F.plainAttrs_list PySem.F.slot_list_append PySem.F.type_list_append mt_append (pv 4) (pa_cons (pe_tup (pa_cons (pe_ifExp (pt_cmpR (op_eq) (pv 1) pe_int (nomark _)) (pv 7) (pv 5)) (pa_cons (pe_ifExp (pt_cmpR (op_eq) (pv 1) pe_int (nomark _)) (pv 7) (pv 5)) (pa_cons (pe_ifExp (pt_cmpR (op_eq) (pv 1) pe_int (nomark _)) (pv 7) (pv 5)) pa_nil)))) pa_nil))))))
      (pss_one (ps_ret (pe_callTy (r := rTup K) cTup (by rfl) T.tuple (by decide +kernel) (pa_cons (pv 4) pa_nil)))))), ?_⟩
  refine ⟨small100 (by show 0 ≤ 1000000; decide), fun o ho => ⟨small100 (by show 2 ≤ 1000000; decide), fun u hu => ⟨_, _, rfl, ?_⟩⟩⟩
  have s1 := same_upd (o := .lst []) ho
  have s2 := same_upd (o := .tup [.str "out", .int 0]) hu
  have hu2 : (upd (upd H o (.lst [])) u (.tup [.str "out", .int 0])) u = some (.tup [.str "out", .int 0]) := upd_same
  have s12 := s1.trans s2
  have o2 := s2 _ _ (show (upd H o (.lst [])) o = some (.lst []) from upd_same)
  generalize upd (upd H o (.lst [])) u (.tup [.str "out", .int 0]) = H2 at s12 hu2 o2 ⊢
  have nuo : u ≠ o := ne_of hu2 o2 (by intro z; cases z)
  refine ⟨_, rfl, _, rfl, by omega, by omega, ?_⟩
  rw [Int.toNat_natCast]
  refine for_range (fun i σ H4 => ∃ y6 y7 acc, ∃ ph : List (List (Mv × Nat)), σ = [some (.int (n : Nat)), some (.int (k : Nat)), some (.str "wait"), some vp, some (.ref o), some (.ref u), y6, y7] ∧ Same H H4 ∧ H4 u = some (.tup [.str "out", .int 0]) ∧ H4 o = some (.lst acc) ∧ TpL H4 acc (ph.map encP) ∧ ph.length = i ∧ ∀ P ∈ ph, PhOk n P)
    ⟨none, none, [], [], rfl, s12, hu2, o2, .nil, rfl, (fun _ h => nomatch h)⟩ (fun i σ H4 hi hP => ?_) (fun σ H4 hP => ?_)
  · obtain ⟨y6, y7, acc, ph, rfl, s4, hu4, ho4, ht, hlen, hph⟩ := hP
    dsimp only [gName]
    refine asg_cut (fun v H5 => Same H4 H5 ∧ ∃ m' : Mv × Nat, Tp H5 v (encPair m') ∧ m'.2 < n) (fun Q' hQ => ?_) (fun v H5 hv => ?_)
    · refine ⟨_, rfl, _, _, rfl, rfl, _, rfl, _, _, rfl, rfl, _, rfl, ite2 (fun e => ?_) (fun e => ?_)⟩
      · have e : (0 : Int) + i + 1 < (n : Nat) := of_decide_eq_true e
        refine ⟨_, rfl, _, rfl, _, _, rfl, rfl, small100 (by show 2 ≤ 1000000; decide), fun c hc => ?_⟩
        refine hQ _ _ ⟨same_upd hc, (.wait, i + 1), .tup upd_same (.two (.str _) ?_), by show i + 1 < n; omega⟩
        show Tp _ (.int ((0 : Int) + i + 1)) (.int ((i + 1 : Nat) : Int))
        rw [show (0 : Int) + i + 1 = ((i + 1 : Nat) : Int) by omega]
        exact .int _
      · exact ⟨_, rfl, hQ _ _ ⟨Same.refl _, m, hp.keep (.of s4), hm⟩⟩
    obtain ⟨s5, m', tv, hm'⟩ := hv
    dsimp only [gName]
    have ho5 := s5 _ _ ho4
    have hu5 := s5 _ _ hu4
    have tu : Tp H5 (.ref u) (encPair (.out, 0)) := .tup hu5 (.two (.str _) (.int _))
    have fin : ∀ (va vb vc : V) (ma mb mc : Mv × Nat), Tp H5 va (encPair ma) → Tp H5 vb (encPair mb) → Tp H5 vc (encPair mc) → ma.2 < n → mb.2 < n → mc.2 < n → ∀ c, H5 c = none →
        ∃ l xs y, V.ref o = .ref l ∧ [V.ref c] = [y] ∧ (upd H5 c (.tup [va, vb, vc])) l = some (.lst xs) ∧ xs.length < sizeLine ∧
          ∃ y6 y7 acc, ∃ ph : List (List (Mv × Nat)), [some (.int (n : Nat)), some (.int (k : Nat)), some (.str "wait"), some vp, some (.ref o), some (.ref u), some (.int (0 + (i : Nat))), some v] = [some (.int (n : Nat)), some (.int (k : Nat)), some (.str "wait"), some vp, some (.ref o), some (.ref u), y6, y7] ∧
            Same H (upd (upd H5 c (.tup [va, vb, vc])) l (.lst (xs ++ [y]))) ∧ (upd (upd H5 c (.tup [va, vb, vc])) l (.lst (xs ++ [y]))) u = some (.tup [.str "out", .int 0]) ∧ (upd (upd H5 c (.tup [va, vb, vc])) l (.lst (xs ++ [y]))) o = some (.lst acc) ∧
            TpL (upd (upd H5 c (.tup [va, vb, vc])) l (.lst (xs ++ [y]))) acc (ph.map encP) ∧ ph.length = i + 1 ∧ ∀ P ∈ ph, PhOk n P := fun va vb vc ma mb mc ta tb tc la lb lc c hc => by
      have s6 := same_upd (o := .tup [va, vb, vc]) hc
      have ho6 := s6 _ _ ho5
      refine ⟨o, acc, .ref c, rfl, rfl, ho6, small100' (by rw [ht.length, List.length_map, hlen]; omega), _, _, _, ph ++ [[ma, mb, mc]], rfl, same_mut (s4.trans (s5.trans s6)) ho, ?_, upd_same, ?_, ?_, ?_⟩
      · rw [upd_ne nuo]; exact s6 _ _ hu5
      · rw [List.map_append]
        exact TpL.keep (.lst ho6) ((ht.keep (.of (s5.trans s6))).app (.one (.tup upd_same (TpL.three (ta.keep (.of s6)) (tb.keep (.of s6)) (tc.keep (.of s6))))))
      · rw [List.length_append, List.length_singleton, hlen]
      · intro P hP
        rcases List.mem_append.mp hP with h | h
        · exact hph P h
        · rw [List.mem_singleton.mp h]
          refine ⟨rfl, fun x hx => ?_⟩
          simp only [List.mem_cons, List.not_mem_nil, or_false] at hx
          rcases hx with rfl | rfl | rfl
          · exact la
          · exact lb
          · exact lc
    have h0n : ((Mv.out, 0) : Mv × Nat).2 < n := by show 0 < n; omega
    match k, hk with
    | 0, _ => exact ⟨_, rfl, .inl ⟨rfl, _, SqL.of ho5⟩, _, rfl, rfl, true, rfl, _, rfl, _, rfl, rfl, false, rfl, _, rfl, _, rfl, rfl, false, rfl, _, rfl, small100 (by show 3 ≤ 1000000; decide), fin _ _ _ m' (.out, 0) (.out, 0) tv tu tu hm' h0n h0n⟩
    | 1, _ => exact ⟨_, rfl, .inl ⟨rfl, _, SqL.of ho5⟩, _, rfl, rfl, false, rfl, _, rfl, _, rfl, rfl, true, rfl, _, rfl, _, rfl, rfl, false, rfl, _, rfl, small100 (by show 3 ≤ 1000000; decide), fin _ _ _ (.out, 0) m' (.out, 0) tu tv tu h0n hm' h0n⟩
    | 2, _ => exact ⟨_, rfl, .inl ⟨rfl, _, SqL.of ho5⟩, _, rfl, rfl, false, rfl, _, rfl, _, rfl, rfl, false, rfl, _, rfl, _, rfl, rfl, true, rfl, _, rfl, small100 (by show 3 ≤ 1000000; decide), fin _ _ _ (.out, 0) (.out, 0) m' tu tu tv h0n h0n hm'⟩
  · obtain ⟨y6, y7, acc, ph, rfl, s4, hu4, ho4, ht, hlen, hph⟩ := hP
    refine ⟨_, rfl, o, acc, rfl, .inl ⟨SqL.of ho4, fun c hc => ?_⟩⟩
    have s5 := same_upd (o := .tup acc) hc
    exact q _ _ ph (s4.trans s5) (.tup upd_same (ht.keep (.of s5))) hlen hph
/-! ### a small rule -/
def sp_small : Sp := fun vs H Q _ => ∃ f pc, vs = [.ref f] ∧ FeedOk H f pc ∧ ∀ H' v R, Kf f H H' → FeedOk H' f pc → Tp H' v (encRule R) → Tiny R → Q v H'
theorem ok_law_small (T : Txt K w mg aC aP fA fS) (c_law_draw : Cal P w K mg base 1 "_law_draw" sp_draw) (c_law_pick : Cal P w K mg base 2 "_law_pick" sp_pick) (c_law_plan : Cal P w K mg base 3 "_law_plan" sp_plan) (D : Dfn K mg "_law_small" s_law_small f fd ["_law_feed_here"]) :
    FnOk P w K mg base L2.CX0 4 f fd ["_law_feed_here"] sp_small := by
  refine fnok_of D sc_law_small (fun vs H Q E h => by obtain ⟨f, pc, rfl, _⟩ := h; rfl) (fun cdv A outer s H vs Q E hr h => ?_)
  obtain ⟨f, pc, rfl, hF, q⟩ := h
  refine ⟨_, (pss_cons (ps_par (i := 1) (j := 2) rfl sc_law_small.nd rfl rfl (by decide) rfl rfl (pa_cons (pe_c c_law_pick hr (by decide) (by rfl) (pa_cons (pv 0) (pa_cons (pe_lst (pa_cons pe_int (pa_cons pe_int (pa_cons pe_int pa_nil)))) pa_nil))) (pa_cons (pe_cmpR (op_eq) (pe_c c_law_draw hr (by decide) (by rfl) (pa_cons (pv 0) (pa_cons pe_int pa_nil))) pe_int (nomark _)) pa_nil)) (by rfl))
      (pss_cons (ps_set (i := 3) sc_law_small.nd rfl (.inl rfl) (pe_ifExp (pt_val (pv 2)) (pe_c c_law_plan hr (by decide) (by rfl) (pa_cons (pv 0) (pa_cons pe_int (pa_cons pe_int (pa_cons pe_int pa_nil))))) (pe_c c_law_plan hr (by decide) (by rfl) (pa_cons (pv 0) (pa_cons pe_int (pa_cons (pv 1) (pa_cons pe_int pa_nil)))))))
      (pss_cons (ps_if (pt_cmpR (op_eq) (pe_c c_law_draw hr (by decide) (by rfl) (pa_cons (pv 0) (pa_cons pe_int pa_nil))) pe_int (nomark _)) (pss_cons (ps_asg (pe_tup (pa_cons (pe_c c_law_draw hr (by decide) (by rfl) (pa_cons (pv 0) (pa_cons pe_int pa_nil))) (pa_cons (pe_callB (r := rLen K) cLen (by rfl) T.len (by decide +kernel) (pa_cons (pe_ix (r := rIxT K) ix_tup (pv 3) pe_int (fun _ _ => rfl)) pa_nil)) pa_nil))) (pg_tup rfl (pgs_cons (pg_name (i := 4) sc_law_small.nd rfl (.inr rfl)) (pgs_cons (pg_name (i := 5) sc_law_small.nd rfl (.inr rfl)) pgs_nil))))
      (pss_cons (ps_setLc (i := 6) (own := [("_law_phase", 8)]) (g := gName 8) rfl sc_law_small.nd rfl rfl (sw_true rfl rfl rfl (by decide +kernel)) (pi_tup (pe_ix (r := rIxT K) ix_tup (pv 3) pe_int (fun _ _ => rfl))) (blkOk_by (own := [("_law_phase", 8)]) (N := N_law_small) (sc := defScope s_law_small) (by decide +kernel)) (fun _ _ _ _ _ => (pg_name (i := 8) sc_law_small.nd rfl (.inl rfl))) (fun _ _ _ _ _ => pts_nil) (fun _ _ _ _ _ => (pe_op (r := rCatA K) op_catA (pe_op (r := rCatA K) op_catA (pe_slice (r := rSlA K) sl_tupA (pv 8) po_none (po_some (pv 4))) (pe_tup (pa_cons (pe_tup (pa_cons pe_str (pa_cons (pe_c c_law_draw hr (by decide) (by rfl) (pa_cons (pv 0) (pa_cons (pv 5) pa_nil))) pa_nil))) pa_nil))) (pe_slice (r := rSlA K) sl_tupA (pv 8) (po_some (pe_op op_add (pv 4) pe_int)) po_none))))
      (pss_one (ps_set (i := 3) sc_law_small.nd rfl (.inl rfl) (pe_tup (pa_cons (pe_ix (r := rIxT K) ix_tup (pv 3) pe_int (fun _ _ => rfl)) (pa_cons (pe_callTy (r := rTup K) cTup (by rfl) T.tuple (by decide +kernel) (pa_cons (pv 6) pa_nil)) pa_nil))))))) pss_nil)
      (pss_cons (ps_if (pt_cmpR (op_eq) (pe_c c_law_draw hr (by decide) (by rfl) (pa_cons (pv 0) (pa_cons pe_int pa_nil))) pe_int (nomark _)) (pss_cons (ps_set (i := 7) sc_law_small.nd rfl (.inl rfl) (pe_tup (pa_cons pe_str (pa_cons pe_int pa_nil))))
      (pss_one (ps_set (i := 3) sc_law_small.nd rfl (.inl rfl) (pe_tup (pa_cons (pe_ix (r := rIxT K) ix_tup (pv 3) pe_int (fun _ _ => rfl)) (pa_cons (pe_op (r := rCatA K) op_catA (pe_slice (r := rSlA K) sl_tupA (pe_ix (r := rIxT K) ix_tup (pv 3) pe_int (fun _ _ => rfl)) po_none (po_some (pe_un un_neg pe_int))) (pe_tup (pa_cons (pe_tup (pa_cons (pv 7) (pa_cons (pe_ix (r := rIxT K) ix_tup (pe_ix (r := rIxT K) ix_tup (pe_ix (r := rIxT K) ix_tup (pv 3) pe_int (fun _ _ => rfl)) (pe_un un_neg pe_int) (fun _ _ => rfl)) pe_int (fun _ _ => rfl)) (pa_cons (pv 7) pa_nil)))) pa_nil))) pa_nil)))))) pss_nil)
      (pss_one (ps_ret (pv 3))))))), ?_⟩
  refine ⟨_, rfl, small100 (by show 3 ≤ 1000000; decide), fun l hl => ?_⟩
  have s1 := same_upd (o := .lst [.int 1, .int 2, .int 4]) hl
  refine ⟨f, pc, l, _, rfl, hF.same s1, upd_same, by decide, by decide, fun H2 v k2 F2 hv => ⟨_, rfl, f, pc, 6, rfl, F2, by decide, by decide, fun H3 r k3 F3 hr3 => ⟨rfl, _, _, rfl, ?_⟩⟩⟩
  obtain ⟨wd, rfl, hw0, hw⟩ : ∃ wd : Nat, v = .int (wd : Nat) ∧ 0 < wd ∧ wd ≤ 4 := by
    simp only [List.mem_cons, List.not_mem_nil, or_false] at hv
    rcases hv with rfl | rfl | rfl
    · exact ⟨1, rfl, by decide, by decide⟩
    · exact ⟨2, rfl, by decide, by decide⟩
    · exact ⟨4, rfl, by decide, by decide⟩
  generalize decide (V.int (r : Nat) = V.int 0) = lg
  have k03 : Kf f H H3 := ((Kf.of s1).trans k2).trans k3
  clear k2 F2 k3 hr3 hv
  dsimp only [gName]
  refine asg_cut (fun v H4 => Kf f H H4 ∧ FeedOk H4 f pc ∧ ∃ R, Tp H4 v (encRule R) ∧ Tiny R) (fun Q' hQ => ?_) (fun v H4 hv => ?_)
  · refine ⟨_, rfl, _, rfl, ite2 (fun e => ?_) (fun e => ?_)⟩
    · exact ⟨_, rfl, f, pc, 1, 1, 6, rfl, F3, by decide, by decide, by decide, by decide, by decide, fun H4 v R k4 F4 t4 y4 => hQ _ _ ⟨k03.trans k4, F4, R, t4, y4⟩⟩
    · exact ⟨_, rfl, _, rfl, f, pc, 2, wd, 3, rfl, F3, by decide, hw0, hw, by decide, by decide, fun H4 v R k4 F4 t4 y4 => hQ _ _ ⟨k03.trans k4, F4, R, t4, y4⟩⟩
  obtain ⟨k4, F4, R, t4, y4⟩ := hv
  clear k03 F3
  dsimp only [gName]
  -- the stair
  refine seq_cut (fun σ' H' => ∃ vp y4 y5 y6 y7 y8, ∃ R : Rule, σ' = [some (.ref f), some (.int (wd : Nat)), some (.bl lg), some vp, y4, y5, y6, y7, y8] ∧ Kf f H H' ∧ FeedOk H' f pc ∧ Tp H' vp (encRule R) ∧ Tiny R) (fun D' hD' => ?_) (fun σ' H' hP => ?_)
  · refine ⟨_, rfl, f, pc, 3, rfl, F4, by decide, by decide, fun H5 r k5 F5 hr5 => ⟨rfl, _, rfl, ite2 (fun e => ?_) (fun e => ?_)⟩⟩
    · have t5 := t4.keep (F4.kt k5)
      obtain ⟨ra, vm, pa, xs, rfl, hra, hm, hpa, tpa⟩ := rule_inv t5
      refine ⟨_, rfl, f, pc, 3, rfl, F5, by decide, by decide, fun H6 k k6 F6 hk => ?_⟩
      have kt6 := F5.kt k6
      refine ⟨_, rfl, ra, _, _, _, rfl, rfl, SqT.of (kt6 _ _ hra), at_of (j := 1) rfl rfl, pa, _, rfl, .inr (SqT.of (kt6 _ _ hpa)), small100 (by show 2 ≤ 1000000; decide), fun u hu => ?_⟩
      have hxl : xs.length = R.N := by rw [tpa.length, List.length_map]; rfl
      have s7 := same_upd (o := .tup [.int (k : Nat), .int (xs.length : Nat)]) hu
      refine ⟨u, _, rfl, SqT.of upd_same, rfl, _, _, rfl, _, _, rfl, rfl, ?_⟩
      have F7 := F6.same s7
      have k7 : Kf f H (upd H6 u (.tup [.int (k : Nat), .int (xs.length : Nat)])) := k4.trans (k5.trans (k6.trans (.of s7)))
      have kt7 := kt6.trans (.of s7)
      generalize upd H6 u (.tup [.int (k : Nat), .int (xs.length : Nat)]) = H7 at F7 k7 kt7 ⊢
      clear s7 hu F6 k6 kt6 F5 k5
      have tpa7 : TpL H7 xs (R.ph.map encP) := tpa.keep kt7
      have hlf : ∀ P ∈ R.ph, PhOk R.N P := fun P hP => y4.wf.ok P hP
      refine ⟨_, rfl, ra, _, _, _, rfl, rfl, SqT.of (kt7 _ _ hra), at_of (j := 1) rfl rfl, pa, rfl, ⟨_, SqT.of (kt7 _ _ hpa)⟩, fun D hD => ?_⟩
      refine lc_tupF (fun (_ P : List (Mv × Nat)) => PhOk R.N P) encP encP F7 hD (kt7 _ _ hpa) tpa7 (by have := y4.N; exact small100' (show R.ph.length ≤ _ by have : R.ph.length ≤ 10 := this; omega)) (fun x P H8 R' hP k8 F8 hx hR => ?_) (fun H8 acc l8 k8 F8 e8 t8 len8 A8 => ?_)
      · obtain ⟨h3, hlt⟩ := hlf P hP
        obtain ⟨a, x0, x1, x2, m0, m1, m2, rfl, rfl, ha, tx0, tx1, tx2⟩ := phase_inv hx h3
        have l0 := hlt m0 (by simp)
        have l1 := hlt m1 (by simp)
        have l2 := hlt m2 (by simp)
        refine ⟨rfl, _, rfl, _, rfl, _, rfl, a, _, rfl, SqT.of ha, fun h => ?_, fun _ p hp => ?_⟩
        · exfalso
          have h2 := h.2
          rw [HT.sIx_nat] at h2
          have h2 : min k 3 = 3 := h2
          omega
        have s9 := same_upd (o := .tup (cutV [x0, x1, x2] none (some (k : Nat)))) hp
        refine ⟨_, rfl, _, rfl, f, pc, xs.length, rfl, F8.same s9, by rw [hxl]; exact y4.wf.pos, by have := y4.N; omega, fun H10 z k10 F10 hz => ⟨small100 (by show 2 ≤ 1000000; decide), fun c hc => ⟨small100 (by show 1 ≤ 1000000; decide), fun d hd => ?_⟩⟩⟩
        have hz : z < R.N := by omega
        have s11 := same_upd (o := .tup [.str "wait", .int (z : Nat)]) hc
        have s12 := same_upd (o := .tup [.ref c]) hd
        have hc12 := s12 _ _ (show (upd H10 c (.tup [.str "wait", .int (z : Nat)])) c = some (.tup [.str "wait", .int (z : Nat)]) from upd_same)
        have hd12 : (upd (upd H10 c (.tup [.str "wait", .int (z : Nat)])) d (.tup [.ref c])) d = some (.tup [.ref c]) := upd_same
        have hp12 := (s11.trans s12) _ _ ((F8.same s9).kt k10 _ _ (show (upd H8 p (.tup (cutV [x0, x1, x2] none (some (k : Nat))))) p = some (.tup (cutV [x0, x1, x2] none (some (k : Nat)))) from upd_same))
        have ha12 := (s11.trans s12) _ _ ((F8.same s9).kt k10 _ _ (s9 _ _ ha))
        have F12 := F10.same (s11.trans s12)
        have k12 : Kf f H8 (upd (upd H10 c (.tup [.str "wait", .int (z : Nat)])) d (.tup [.ref c])) := (Kf.of s9).trans (k10.trans (.of (s11.trans s12)))
        generalize upd (upd H10 c (.tup [.str "wait", .int (z : Nat)])) d (.tup [.ref c]) = H12 at F12 k12 hc12 hd12 hp12 ha12 ⊢
        have kt12 := F8.kt k12
        have tc : ∀ {Hx}, Same H12 Hx → Tp Hx (.ref c) (encPair (.wait, z)) := fun s => .tup (s _ _ hc12) (.two (.str _) (.int _))
        have tk : ∀ {Hx v m}, Same H12 Hx → Tp H8 v (encPair m) → Tp Hx v (encPair m) := fun s t => t.keep (kt12.trans (.of s))
        have pok : ∀ {a b c : Mv × Nat}, a.2 < R.N → b.2 < R.N → c.2 < R.N → PhOk R.N [a, b, c] := fun la lb lc => ⟨rfl, fun x hx => by
          simp only [List.mem_cons, List.not_mem_nil, or_false] at hx
          rcases hx with rfl | rfl | rfl
          · exact la
          · exact lb
          · exact lc⟩
        have sz : ∀ n : Nat, n ≤ 10 → n ≤ sizeLine := fun n h => small100 (by omega)
        match k, hk with
        | 0, _ =>
          refine ⟨p, d, [], [.ref c], rfl, rfl, SqT.of hp12, SqT.of hd12, sz _ (Nat.le_of_ble_eq_true rfl), fun _ => ?_, fun h => absurd rfl h, fun h => absurd rfl h⟩
          refine ⟨_, rfl, _, rfl, _, _, rfl, rfl, _, rfl, a, _, rfl, SqT.of ha12, fun h => absurd h.1 (show ¬ HT.sIx 3 0 (some ((0 : Nat) + 1 : Int)) = 0 by decide), fun _ e he => ?_⟩
          have s13 := same_upd (o := .tup [x1, x2]) he
          refine ⟨d, e, [.ref c], [x1, x2], rfl, rfl, SqT.of (s13 _ _ hd12), SqT.of upd_same, sz _ (Nat.le_of_ble_eq_true rfl), fun h => (nomatch h), fun _ h => (nomatch h), fun _ _ g hg => ?_⟩
          have s14 := same_upd (o := .tup [.ref c, x1, x2]) hg
          have s := s13.trans s14
          exact hR _ [(.wait, z), m1, m2] _ (k12.trans (.of s)) (F12.same s) (.tup upd_same (.three (tc s) (tk s tx1) (tk s tx2))) (pok hz l1 l2)
        | 1, _ =>
          refine ⟨p, d, [x0], [.ref c], rfl, rfl, SqT.of hp12, SqT.of hd12, sz _ (Nat.le_of_ble_eq_true rfl), fun h => (nomatch h), fun _ h => (nomatch h), fun _ _ e1 he1 => ?_⟩
          have s13 := same_upd (o := .tup [x0, .ref c]) he1
          refine ⟨_, rfl, _, rfl, _, _, rfl, rfl, _, rfl, a, _, rfl, SqT.of (s13 _ _ ha12), fun h => absurd h.1 (show ¬ HT.sIx 3 0 (some ((1 : Nat) + 1 : Int)) = 0 by decide), fun _ e he => ?_⟩
          have s14 := same_upd (o := .tup [x2]) he
          refine ⟨e1, e, [x0, .ref c], [x2], rfl, rfl, SqT.of (s14 _ _ upd_same), SqT.of upd_same, sz _ (Nat.le_of_ble_eq_true rfl), fun h => (nomatch h), fun _ h => (nomatch h), fun _ _ g hg => ?_⟩
          have s15 := same_upd (o := .tup [x0, .ref c, x2]) hg
          have s := s13.trans (s14.trans s15)
          exact hR _ [m0, (.wait, z), m2] _ (k12.trans (.of s)) (F12.same s) (.tup upd_same (.three (tk s tx0) (tc s) (tk s tx2))) (pok l0 hz l2)
        | 2, _ =>
          refine ⟨p, d, [x0, x1], [.ref c], rfl, rfl, SqT.of hp12, SqT.of hd12, sz _ (Nat.le_of_ble_eq_true rfl), fun h => (nomatch h), fun _ h => (nomatch h), fun _ _ e1 he1 => ?_⟩
          have s13 := same_upd (o := .tup [x0, x1, .ref c]) he1
          refine ⟨_, rfl, _, rfl, _, _, rfl, rfl, _, rfl, a, _, rfl, SqT.of (s13 _ _ ha12), fun h => absurd h.1 (show ¬ HT.sIx 3 0 (some ((2 : Nat) + 1 : Int)) = 0 by decide), fun _ e he => ?_⟩
          have s14 := same_upd (o := .tup []) he
          refine ⟨e1, e, [x0, x1, .ref c], [], rfl, rfl, SqT.of (s14 _ _ upd_same), SqT.of upd_same, sz _ (Nat.le_of_ble_eq_true rfl), fun h => (nomatch h), fun _ _ => ?_, fun _ h => absurd rfl h⟩
          have s := s13.trans s14
          exact hR _ [m0, m1, (.wait, z)] _ (k12.trans (.of s)) (F12.same s) (.tup (s14 _ _ upd_same) (.three (tk s tx0) (tk s tx1) (tc s))) (pok l0 l1 hz)
      · have kt8 := F7.kt k8
        refine ⟨_, rfl, ra, _, _, _, rfl, rfl, SqT.of (kt8 _ _ (kt7 _ _ hra)), at_of (j := 0) rfl rfl, _, rfl, D, acc, rfl, .inl ⟨SqL.of e8, fun c hc => ⟨small100 (by show 2 ≤ 1000000; decide), fun d hd => ?_⟩⟩⟩
        have s9 := (same_upd (o := .tup acc) hc).trans (same_upd (o := .tup [vm, .ref c]) hd)
        refine hD' _ _ ⟨_, _, _, _, _, _, ⟨R.ms, l8⟩, rfl, k7.trans (k8.trans (.of s9)), F8.same s9, .tup upd_same (.two (hm.keep (kt7.trans (kt8.trans (.of s9)))) (.tup (same_upd hd _ _ upd_same) (t8.keep (.of s9)))), ?_⟩
        have eN : l8.length = R.N := len8
        refine ⟨⟨y4.wf.asc, by show 0 < l8.length; rw [eN]; exact y4.wf.pos, fun P hP => ?_⟩, y4.n, by show l8.length ≤ 10; rw [eN]; exact y4.N, y4.b⟩
        obtain ⟨_, _, h1, h2⟩ := A8 P hP
        exact ⟨h1, fun x hx => by show x.2 < l8.length; rw [eN]; exact h2 x hx⟩
    · exact hD' _ _ ⟨_, _, _, _, _, _, R, rfl, k4.trans k5, F5, t4.keep (F4.kt k5), y4⟩
  clear k4 F4 t4 y4
  obtain ⟨vp, z4, z5, z6, z7, z8, R2, rfl, k4, F4, t4, y4⟩ := hP
  clear R
  generalize R2 = R at t4 y4
  -- the last phase
  refine seq_cut (fun σ' H' => ∃ vp y4 y5 y6 y7 y8, ∃ R : Rule, σ' = [some (.ref f), some (.int (wd : Nat)), some (.bl lg), some vp, y4, y5, y6, y7, y8] ∧ Kf f H H' ∧ FeedOk H' f pc ∧ Tp H' vp (encRule R) ∧ Tiny R) (fun D' hD' => ?_) (fun σ' H' hP => ?_)
  · refine ⟨_, rfl, f, pc, 3, rfl, F4, by decide, by decide, fun H5 r k5 F5 hr5 => ⟨rfl, _, rfl, ite2 (fun e => ?_) (fun e => ?_)⟩⟩
    · have t5 := t4.keep (F4.kt k5)
      obtain ⟨ra, vm, pa, xs, rfl, hra, hm, hpa, tpa⟩ := rule_inv t5
      refine ⟨small100 (by show 2 ≤ 1000000; decide), fun u hu => ?_⟩
      have s6 := same_upd (o := .tup [.str "out", .int 0]) hu
      obtain ⟨ph0, P0, eph⟩ : ∃ ph0 P0, R.ph = ph0 ++ [P0] := ⟨R.ph.dropLast, R.ph.getLast (fun z => by have := y4.wf.pos; unfold Rule.N at this; rw [z] at this; exact absurd this (by decide)), (List.dropLast_concat_getLast _).symm⟩
      have tpa6 : TpL (upd H5 u (.tup [.str "out", .int 0])) xs ((ph0.map encP) ++ [encP P0]) := by
        have := tpa.keep (.of s6)
        rw [eph, List.map_append] at this
        exact this
      obtain ⟨ys, y, rfl, ty0, ty⟩ := tpa6.snoc_inv
      obtain ⟨h3, hlt⟩ := y4.wf.ok P0 (by rw [eph]; exact List.mem_append_right _ List.mem_cons_self)
      obtain ⟨a, x0, x1, x2, m0, m1, m2, rfl, rfl, ha, tx0, tx1, tx2⟩ := phase_inv ty h3
      have hra6 := s6 _ _ hra
      have hpa6 := s6 _ _ hpa
      have hu6 : (upd H5 u (.tup [.str "out", .int 0])) u = some (.tup [.str "out", .int 0]) := upd_same
      have F6 := F5.same s6
      have k6 : Kf f H (upd H5 u (.tup [.str "out", .int 0])) := k4.trans (k5.trans (.of s6))
      have hm6 := hm.keep (.of s6)
      generalize upd H5 u (.tup [.str "out", .int 0]) = H6 at hra6 hpa6 hu6 F6 k6 hm6 ty0 ty ha tx0 tx1 tx2 ⊢
      have eyl : ys.length = ph0.length := by rw [ty0.length, List.length_map]
      have eN : R.N = ys.length + 1 := by unfold Rule.N; rw [eph, List.length_append, List.length_singleton, eyl]
      have esl : HT.sIx (ys ++ [V.ref a]).length (ys ++ [V.ref a]).length (some (-1)) = ys.length := by
        rw [List.length_append, List.length_singleton]
        show (if (-1 : Int) < 0 then ((-1 : Int) + ((ys.length + 1 : Nat) : Int)).toNat else min (-1 : Int).toNat (ys.length + 1)) = ys.length
        rw [if_pos (by decide)]
        omega
      have ecut : cutV (ys ++ [V.ref a]) none (some (-1)) = ys := by
        unfold cutV
        rw [esl]
        show ((ys ++ [V.ref a]).drop 0).take (ys.length - 0) = ys
        rw [List.drop_zero, Nat.sub_zero, List.take_left]
      refine ⟨_, rfl, ra, _, _, _, rfl, rfl, SqT.of hra6, at_of (j := 0) rfl rfl, _, rfl, ra, _, _, _, rfl, rfl, SqT.of hra6, at_of (j := 1) rfl rfl, _, rfl, _, rfl, pa, _, rfl, SqT.of hpa6, fun h => ?_, fun _ p hp => ?_⟩
      · exfalso
        have h2 := h.2
        have h2 : HT.sIx (ys ++ [V.ref a]).length (ys ++ [V.ref a]).length (some (-1)) = (ys ++ [V.ref a]).length := h2
        rw [esl, List.length_append, List.length_singleton] at h2
        omega
      have s7 := same_upd (o := .tup (cutV (ys ++ [V.ref a]) none (some (-1)))) hp
      have hp7 : (upd H6 p (.tup (cutV (ys ++ [V.ref a]) none (some (-1))))) p = some (.tup ys) := by rw [upd_same, ecut]
      generalize upd H6 p (.tup (cutV (ys ++ [V.ref a]) none (some (-1)))) = H7 at s7 hp7 ⊢
      refine ⟨_, rfl, _, rfl, ra, _, _, _, rfl, rfl, SqT.of (s7 _ _ hra6), at_of (j := 1) rfl rfl, _, rfl, pa, _, _, _, rfl, rfl, SqT.of (s7 _ _ hpa6), atI_last _ _, a, _, _, _, rfl, rfl, SqT.of (s7 _ _ ha), at_of (j := 1) rfl rfl, _, rfl, small100 (by show 3 ≤ 1000000; decide), fun c hc => ⟨small100 (by show 1 ≤ 1000000; decide), fun d hd => ?_⟩⟩
      have s8 := same_upd (o := .tup [.ref u, x1, .ref u]) hc
      have s9 := same_upd (o := .tup [.ref c]) hd
      have fin : ∀ g H10, Same H7 H10 → H10 c = some (.tup [.ref u, x1, .ref u]) → H10 g = some (.tup (ys ++ [.ref c])) → ∀ d, H10 d = none → ∃ vp y4 y5 y6 y7 y8, ∃ R : Rule, [some (.ref f), some (.int (wd : Nat)), some (.bl lg), some (.ref d), z4, z5, z6, some (V.ref u), z8] = [some (.ref f), some (.int (wd : Nat)), some (.bl lg), some vp, y4, y5, y6, y7, y8] ∧ Kf f H (upd H10 d (.tup [vm, .ref g])) ∧ FeedOk (upd H10 d (.tup [vm, .ref g])) f pc ∧ Tp (upd H10 d (.tup [vm, .ref g])) vp (encRule R) ∧ Tiny R := fun g H10 s10 hc10 hg10 d hd => by
        have s11 := same_upd (o := .tup [vm, .ref g]) hd
        have s := s7.trans (s10.trans s11)
        have tu : Tp (upd H10 d (.tup [vm, .ref g])) (.ref u) (encPair (.out, 0)) := .tup (s _ _ hu6) (.two (.str _) (.int _))
        have t3 : Tp (upd H10 d (.tup [vm, .ref g])) (.ref c) (encP [(.out, 0), m1, (.out, 0)]) := .tup (s11 _ _ hc10) (.three tu (tx1.keep (.of s)) tu)
        have tl : TpL (upd H10 d (.tup [vm, .ref g])) (ys ++ [.ref c]) ((ph0 ++ [[(.out, 0), m1, (.out, 0)]]).map encP) := by
          rw [List.map_append]
          exact (ty0.keep (.of s)).snoc t3
        refine ⟨_, _, _, _, _, _, ⟨R.ms, ph0 ++ [[(.out, 0), m1, (.out, 0)]]⟩, rfl, k6.trans (.of s), F6.same s, .tup upd_same (.two (hm6.keep (.of s)) (.tup (s11 _ _ hg10) tl)), ?_⟩
        have eN2 : (ph0 ++ [[((.out, 0) : Mv × Nat), m1, (.out, 0)]]).length = R.N := by rw [List.length_append, List.length_singleton, eN, eyl]
        refine ⟨⟨y4.wf.asc, by show 0 < (ph0 ++ [[((.out, 0) : Mv × Nat), m1, (.out, 0)]]).length; rw [eN2]; exact y4.wf.pos, fun P hP => ?_⟩, y4.n, by show (ph0 ++ [[((.out, 0) : Mv × Nat), m1, (.out, 0)]]).length ≤ 10; rw [eN2]; exact y4.N, y4.b⟩
        show P.length = 3 ∧ ∀ x ∈ P, x.2 < (ph0 ++ [[((.out, 0) : Mv × Nat), m1, (.out, 0)]]).length
        rw [eN2]
        rcases List.mem_append.mp hP with h | h
        · exact y4.wf.ok P (by rw [eph]; exact List.mem_append_left _ h)
        · rw [List.mem_singleton.mp h]
          refine ⟨rfl, fun x hx => ?_⟩
          have h0 := y4.wf.pos
          simp only [List.mem_cons, List.not_mem_nil, or_false] at hx
          rcases hx with rfl | rfl | rfl
          · exact h0
          · exact hlt x (by simp)
          · exact h0
      have hc9 := s9 _ _ (show (upd H7 c (.tup [.ref u, x1, .ref u])) c = some (.tup [.ref u, x1, .ref u]) from upd_same)
      have hd9 : (upd (upd H7 c (.tup [.ref u, x1, .ref u])) d (.tup [.ref c])) d = some (.tup [.ref c]) := upd_same
      refine ⟨p, d, ys, [.ref c], rfl, rfl, SqT.of (s9 _ _ (s8 _ _ hp7)), SqT.of hd9, small100 (by have := y4.N; show ys.length + 1 ≤ 1000000; omega), fun h => ?_, fun _ h => (nomatch h), fun _ _ g hg => ?_⟩
      · refine ⟨small100 (by show 2 ≤ 1000000; decide), fun e he => hD' _ _ (fin d _ (s8.trans s9) hc9 (by rw [h]; exact hd9) e he)⟩
      · have s10 := same_upd (o := .tup (ys ++ [.ref c])) hg
        exact ⟨small100 (by show 2 ≤ 1000000; decide), fun e he => hD' _ _ (fin g _ (s8.trans (s9.trans s10)) (s10 _ _ hc9) upd_same e he)⟩
    · exact hD' _ _ ⟨_, _, _, _, _, _, R, rfl, k4.trans k5, F5, t4.keep (F4.kt k5), y4⟩
  obtain ⟨vp2, _, _, _, _, _, R3, rfl, k7, F7, t7, y7⟩ := hP
  exact ⟨_, rfl, q _ _ R3 k7 F7 t7 y7⟩
end
end K24
namespace K24
open PySem PySem.Spec PyProof.Rows L2
theorem eqv_nil_t {xs : List PyData} : PyData.eqv (.tuple xs) (.tuple []) = xs.isEmpty := by
  cases xs with
  | nil => simp [PyData.eqv, PyData.eqvAll]
  | cons x xs => simp [PyData.eqv, PyData.eqvAll]
theorem shaped_marks (ms : List Int) : SeqAt.shaped (encMarks ms) = true := by
  unfold encMarks
  simp [SeqAt.shaped, PyData.canLay0, PyData.depth, PySem.W.ke_canLayAll0, PySem.W.ke_depthAll]
theorem rg_ints (a b : Int) : rgV a b = (rangeI a b).map V.int := by
  unfold rgV rangeI
  rw [List.map_map]; rfl
/-- the states, as they lie -/
def encSt (s : Stand) : PyData := .tuple [.int (s.1 : Nat), .int s.2.1, .int s.2.2]
theorem st_inv {H : Hp} {v : V} {s : Stand} (h : Tp H v (encSt s)) : ∃ a, v = .ref a ∧ H a = some (.tup [.int (s.1 : Nat), .int s.2.1, .int s.2.2]) := by
  obtain ⟨a, xs, rfl, h1, h2⟩ := h.tup_inv
  cases h2 with
  | cons a1 h2 =>
    cases h2 with
    | cons a2 h2 =>
      cases h2 with
      | cons a3 h2 =>
        cases h2
        rw [a1.int_inv, a2.int_inv, a3.int_inv] at h1
        exact ⟨a, rfl, h1⟩
theorem st_mk {H : Hp} {s : Stand} {a : Addr} (h : H a = some (.tup [.int (s.1 : Nat), .int s.2.1, .int s.2.2])) : Tp H (.ref a) (encSt s) := .tup h (.three (.int _) (.int _) (.int _))
section
variable {P : Program} {w : World} {K : PySem.W.Frag} {mg : Str → Option Value} {base : Heap} {aC aP fA fS : Addr} {f : Addr} {fd : FuncData}
/-- a list that is empty or not, then its first one or none -/
theorem head_cut {ys : List Int} {H : Hp} {D : Addr} {σ : L2.St} {j : Nat} {K : PySem.W.Frag} (hj : σ[j]? = some (some (.ref D))) (e : H D = some (.lst (ys.map V.int))) (Q : VK) (q : ∀ H', Same H H' → Q (vR ys.head?) H') :
    tIf (tTest (tOp (rNeD K) (tVar j) (tLst tNil))) (tOp (rIxL K) (tVar j) (tC (.int 0))) (tC .non) σ H Q := by
  refine ⟨_, hj, Nat.zero_le _, fun p hp => ?_⟩
  have s := same_upd (o := .lst []) hp
  refine ⟨.list (ys.map PyData.int), .list [], tp_ints (s _ _ e), .lst (SqL.of upd_same) .nil, PySem.W.ke_shaped_ints _, rfl, _, rfl, ?_⟩
  rw [eqv_nil]
  cases ys with
  | nil => exact q _ s
  | cons y ys => exact ⟨_, hj, D, _, _, _, rfl, rfl, SqL.of (s _ _ e), at_of (j := 0) rfl rfl, q _ s⟩
def sp_upper : Sp := fun vs H Q _ => ∃ vm ms x, vs = [vm, .int x] ∧ Tp H vm (encMarks ms) ∧ ms.length ≤ 100 ∧ ∀ H', Same H H' → Q (vR (upper ms x)) H'
theorem ok_law_upper (T : Txt K w mg aC aP fA fS) (D : Dfn K mg "_law_upper" s_law_upper f fd ["_law_tops_here", "_law_at"]) : FnOk P w K mg base L2.CX0 1 f fd ["_law_tops_here", "_law_at"] sp_upper := by
  refine fnok_of D sc_law_upper (fun vs H Q E h => by obtain ⟨vm, ms, x, rfl, _⟩ := h; rfl) (fun cdv A outer s H vs Q E hr h => ?_)
  obtain ⟨vm, ms, x, rfl, hm, hl, q⟩ := h
  obtain ⟨a, rfl, ha⟩ := marks_inv hm
  refine ⟨_, (pss_cons (ps_setLc (i := 2) (own := [("_law_top", 3)]) (g := gName 3) rfl sc_law_upper.nd rfl rfl (sw_true rfl rfl rfl (by decide +kernel)) (pi_tup (pv 0)) (blkOk_by (own := [("_law_top", 3)]) (N := N_law_upper) (sc := defScope s_law_upper) (by decide +kernel)) (fun _ _ _ _ _ => (pg_name (i := 3) sc_law_upper.nd rfl (.inl rfl))) (fun _ _ _ _ _ => (pts_one (pt_cmpR op_gt (pv 3) (pv 1) (nomark _)))) (fun _ _ _ _ _ => (pv 3)))
      (pss_one (ps_ret (pe_ifExp (pt_cmpR (op_neD hr.units) (pv 2) (pe_lst pa_nil) (nomark _)) (pe_ix (r := rIxL K) ix_list (pv 2) pe_int (fun _ _ => rfl)) pe_non)))), ?_⟩
  refine ⟨_, rfl, a, rfl, ⟨_, SqT.of ha⟩, fun D hD => ?_⟩
  refine lc_tupT (enc := PyData.int) (bs := ms) (fun m : Int => if x < m then some (PyData.int m) else none) hD ha ints_mk (small100' (by omega)) (fun v m H2 R' hm' s2 hv h0 h1 => ?_) (fun H2 acc s2 e2 t2 => ?_)
  · have hv := hv.int_inv
    subst hv
    refine ⟨rfl, _, rfl, _, rfl, _, _, rfl, rfl, _, rfl, ite2 (fun e => ?_) (fun e => ?_)⟩
    · exact ⟨_, rfl, h1 _ _ _ (Same.refl _) (if_pos (of_decide_eq_true e)) (.int _)⟩
    · exact h0 _ (Same.refl _) (if_neg fun z => e (decide_eq_true z))
  · rw [filterMap_if] at t2
    have ea := ints_inv t2
    subst ea
    exact head_cut (j := 2) rfl e2 Q fun H' s' => q H' (s2.trans s')
def sp_case : Sp := fun vs H Q _ => ∃ vm ms x y, vs = [vm, .int x, .int y] ∧ Tp H vm (encMarks ms) ∧ ms.length ≤ 100 ∧ x < y ∧ ∀ H', Same H H' → Q (.str (flS (caseOf ms x y))) H'
theorem ok_law_case (T : Txt K w mg aC aP fA fS) (c_law_upper : Cal P w K mg base 1 "_law_upper" sp_upper) (D : Dfn K mg "_law_case" s_law_case f fd ["_law_tops_here", "_law_at", "_law_late"]) : FnOk P w K mg base L2.CX0 2 f fd ["_law_tops_here", "_law_at", "_law_late"] sp_case := by
  refine fnok_of D sc_law_case (fun vs H Q E h => by obtain ⟨vm, ms, x, y, rfl, _⟩ := h; rfl) (fun cdv A outer s H vs Q E hr h => ?_)
  obtain ⟨vm, ms, x, y, rfl, hm, hl, hxy, q⟩ := h
  refine ⟨_, (pss_cons (ps_set (i := 3) sc_law_case.nd rfl (.inl rfl) (pe_c c_law_upper hr (by decide) (by rfl) (pa_cons (pv 0) (pa_cons (pv 1) pa_nil))))
      (pss_cons (ps_if (pt_cmpR op_isN (pv 2) pe_non (nomark _)) (pss_one (ps_ret pe_str)) pss_nil)
      (pss_cons (ps_if (pt_cmpR op_le (pv 2) (pv 1) (nomark _)) (pss_one (ps_ret pe_non)) pss_nil)
      (pss_cons (ps_if (PW.pt (pw_or (pt_cmpR op_isN (pv 3) pe_non (nomark _)) (pw_or1 (pt_cmpR op_lt (pv 2) (pv 3) (nomark _))))) (pss_one (ps_ret pe_str)) pss_nil)
      (pss_one (ps_ret (pe_ifExp (pt_cmpR (op_eq) (pv 2) (pv 3) (nomark _)) pe_str pe_str))))))), ?_⟩
  refine ⟨_, rfl, _, rfl, vm, ms, x, rfl, hm, hl, fun H1 s1 => ?_⟩
  refine ⟨_, rfl, rfl, false, rfl, _, rfl, _, rfl, _, _, rfl, rfl, _, rfl, ite2 (fun e => ?_) (fun _ => ?_)⟩
  · have e : y ≤ x := of_decide_eq_true e
    omega
  have q1 := q H1 s1
  unfold caseOf at q1
  cases hu : upper ms x with
  | none =>
    rw [hu] at q1
    exact ⟨_, rfl, rfl, true, rfl, q1⟩
  | some u =>
    rw [hu] at q1
    dsimp only at q1
    refine ⟨_, rfl, rfl, false, rfl, _, rfl, _, rfl, _, _, rfl, rfl, _, rfl, ite2 (fun e => ?_) (fun e => ?_)⟩
    · rw [if_pos (of_decide_eq_true e)] at q1
      exact q1
    · rw [if_neg (fun z => e (decide_eq_true z))] at q1
      refine ⟨_, rfl, _, rfl, rfl, _, rfl, ite2 (fun e2 => ?_) (fun e2 => ?_)⟩
      · rw [if_pos (V.int.inj (of_decide_eq_true e2))] at q1
        exact q1
      · rw [if_neg (fun z => e2 (decide_eq_true (by rw [z]; rfl)))] at q1
        exact q1
def sp_end : Sp := fun vs H Q _ => ∃ vm ms mv x y, vs = [vm, .str (mvS mv), .int x, .int y] ∧ Tp H vm (encMarks ms) ∧ ms.length ≤ 100 ∧ ∀ H', Same H H' → Q (vR (endOf ms mv x y)) H'
theorem ok_law_end (T : Txt K w mg aC aP fA fS) (D : Dfn K mg "_law_end" s_law_end f fd ["_law_tops_here", "_law_move", "_law_at", "_law_late"]) : FnOk P w K mg base L2.CX0 1 f fd ["_law_tops_here", "_law_move", "_law_at", "_law_late"] sp_end := by
  refine fnok_of D sc_law_end (fun vs H Q E h => by obtain ⟨vm, ms, mv, x, y, rfl, _⟩ := h; rfl) (fun cdv A outer s H vs Q E hr h => ?_)
  obtain ⟨vm, ms, mv, x, y, rfl, hm, hl, q⟩ := h
  obtain ⟨a, rfl, ha⟩ := marks_inv hm
  refine ⟨_, (pss_cons (ps_if (pt_cmpR op_in_seq (pv 1) (pe_tup (pa_cons pe_str (pa_cons pe_str pa_nil))) (by rfl)) (pss_one (ps_ret (pe_ifExp (pt_cmpR (op_eq) (pv 1) pe_str (nomark _)) (pv 3) (pv 2)))) pss_nil)
      (pss_cons (ps_setLc (i := 4) (own := [("_law_top", 5)]) (g := gName 5) rfl sc_law_end.nd rfl rfl (sw_true rfl rfl rfl (by decide +kernel)) (pi_tup (pv 0)) (blkOk_by (own := [("_law_top", 5)]) (N := N_law_end) (sc := defScope s_law_end) (by decide +kernel)) (fun _ _ _ _ _ => (pg_name (i := 5) sc_law_end.nd rfl (.inl rfl))) (fun _ _ _ _ _ => (pts_one (PW.pt (pw_and (pt_cmpR op_notN (pv 3) pe_non (nomark _)) (pw_and1 (pt_cmpR op_ge (pv 5) (pv 3) (nomark _))))))) (fun _ _ _ _ _ => (pv 5)))
      (pss_one (ps_ret (pe_ifExp (PW.pt (pw_and (pt_cmpR (op_eq) (pv 1) pe_str (nomark _)) (pw_and1 (pt_cmpR (op_neD hr.units) (pv 4) (pe_lst pa_nil) (nomark _))))) (pe_ix (r := rIxL K) ix_list (pv 4) pe_int (fun _ _ => rfl)) pe_non))))), ?_⟩
  refine ⟨_, rfl, small100 (by show 2 ≤ 1000000; decide), fun p hp => ?_⟩
  have s1 := same_upd (o := .tup [.str "take", .str "wait"]) hp
  have hp1 : (upd H p (.tup [.str "take", .str "wait"])) p = some (.tup [.str "take", .str "wait"]) := upd_same
  have ha1 := s1 _ _ ha
  generalize upd H p (.tup [.str "take", .str "wait"]) = H1 at s1 hp1 ha1 ⊢
  cases mv with
  | take => exact ⟨p, _, rfl, .inr (SqT.of hp1), rfl, rfl, true, rfl, _, rfl, rfl, true, rfl, _, rfl, q _ s1⟩
  | wait => exact ⟨p, _, rfl, .inr (SqT.of hp1), rfl, rfl, true, rfl, _, rfl, rfl, false, rfl, _, rfl, q _ s1⟩
  | out =>
    refine ⟨p, _, rfl, .inr (SqT.of hp1), rfl, rfl, false, rfl, _, rfl, a, rfl, ⟨_, SqT.of ha1⟩, fun D hD => ?_⟩
    refine lc_tupT (enc := PyData.int) (bs := ms) (fun m : Int => if y ≤ m then some (PyData.int m) else none) hD ha1 ints_mk (small100' (by omega)) (fun v m H2 R' hm' s2 hv h0 h1 => ?_) (fun H2 acc s2 e2 t2 => ?_)
    · have hv := hv.int_inv
      subst hv
      refine ⟨rfl, _, rfl, rfl, true, rfl, _, rfl, _, rfl, _, _, rfl, rfl, _, rfl, ite2 (fun e => ?_) (fun e => ?_)⟩
      · exact ⟨_, rfl, h1 _ _ _ (Same.refl _) (if_pos (of_decide_eq_true e)) (.int _)⟩
      · exact h0 _ (Same.refl _) (if_neg fun z => e (decide_eq_true z))
    · exact ⟨_, rfl, rfl, false, rfl, q H2 (s1.trans s2)⟩
  | next =>
    refine ⟨p, _, rfl, .inr (SqT.of hp1), rfl, rfl, false, rfl, _, rfl, a, rfl, ⟨_, SqT.of ha1⟩, fun D hD => ?_⟩
    refine lc_tupT (enc := PyData.int) (bs := ms) (fun m : Int => if y ≤ m then some (PyData.int m) else none) hD ha1 ints_mk (small100' (by omega)) (fun v m H2 R' hm' s2 hv h0 h1 => ?_) (fun H2 acc s2 e2 t2 => ?_)
    · have hv := hv.int_inv
      subst hv
      refine ⟨rfl, _, rfl, rfl, true, rfl, _, rfl, _, rfl, _, _, rfl, rfl, _, rfl, ite2 (fun e => ?_) (fun e => ?_)⟩
      · exact ⟨_, rfl, h1 _ _ _ (Same.refl _) (if_pos (of_decide_eq_true e)) (.int _)⟩
      · exact h0 _ (Same.refl _) (if_neg fun z => e (decide_eq_true z))
    · rw [filterMap_if] at t2
      have ea := ints_inv t2
      subst ea
      refine ⟨_, rfl, rfl, true, rfl, ?_⟩
      exact head_cut (j := 4) rfl e2 Q fun H' s' => q H' (s1.trans (s2.trans s'))
/-! ### the move -/
def goTo (R : Rule) (s : Stand) (y : Int) : Mv × Nat := R.pr s.1 (caseOf R.ms s.2.1 y)
def sp_moved : Sp := fun vs H Q _ => ∃ vr R vs', ∃ s : Stand, ∃ y, vs = [vr, vs', .int y] ∧ Tp H vr (encRule R) ∧ Tiny R ∧ Tp H vs' (encSt s) ∧ s.1 < R.N ∧ s.2.1 < y ∧
  ∀ H' a b v2, Same H H' → H' a = some (.tup [.ref b, v2]) → H' b = some (.tup [.int ((goTo R s y).2 : Nat), vR (endOf R.ms (goTo R s y).1 s.2.1 y), if (goTo R s y).1 = .wait then .int y else vR (endOf R.ms (goTo R s y).1 s.2.1 y)]) → Q (.ref a) H'
theorem ok_law_moved (T : Txt K w mg aC aP fA fS) (c_law_case : Cal P w K mg base 2 "_law_case" sp_case) (c_law_end : Cal P w K mg base 1 "_law_end" sp_end) (D : Dfn K mg "_law_moved" s_law_moved f fd ["_law_plan_here", "_law_stand", "_law_late"]) : FnOk P w K mg base L2.CX0 3 f fd ["_law_plan_here", "_law_stand", "_law_late"] sp_moved := by
  refine fnok_of D sc_law_moved (fun vs H Q E h => by obtain ⟨vr, R, vs', s, y, rfl, _⟩ := h; rfl) (fun cdv A outer s0 H vs Q E hr h => ?_)
  obtain ⟨vr, R, vs', s, y, rfl, hR, ty, hs, hp, hxy, q⟩ := h
  obtain ⟨ra, vm, pa, xs, rfl, hra, hm, hpa, tpa⟩ := rule_inv hR
  obtain ⟨sa, rfl, hsa⟩ := st_inv hs
  refine ⟨_, (pss_cons (ps_asg (pv 1) (pg_tup rfl (pgs_cons (pg_name (i := 3) sc_law_moved.nd rfl (.inl rfl)) (pgs_cons (pg_name (i := 4) sc_law_moved.nd rfl (.inl rfl)) (pgs_cons (pg_name (i := 5) sc_law_moved.nd rfl (.inl rfl)) pgs_nil)))))
      (pss_cons (ps_set (i := 6) sc_law_moved.nd rfl (.inl rfl) (pe_ifExp (pt_cmpR op_notN (pv 4) pe_non (nomark _)) (pe_c c_law_case hr (by decide) (by rfl) (pa_cons (pe_ix (r := rIxT K) ix_tup (pv 0) pe_int (fun _ _ => rfl)) (pa_cons (pv 4) (pa_cons (pv 2) pa_nil)))) pe_non))
      (pss_cons (ps_if (pt_cmpR op_isN (pv 6) pe_non (nomark _)) (pss_one (ps_ret (pe_tup (pa_cons (pv 1) (pa_cons pe_non pa_nil))))) pss_nil)
      (pss_cons (ps_asg (pe_ix (r := rIxT K) ix_tup (pe_ix (r := rIxT K) ix_tup (pe_ix (r := rIxT K) ix_tup (pv 0) pe_int (fun _ _ => rfl)) (pv 3) (fun _ _ => rfl)) (pe_bm PySem.F.plainAttrs_list PySem.F.slot_list_index PySem.F.type_list_index mt_index (pe_lst (pa_cons pe_str (pa_cons pe_str (pa_cons pe_str pa_nil)))) (pa_cons (pv 6) pa_nil)) (fun _ _ => rfl)) (pg_tup rfl (pgs_cons (pg_name (i := 7) sc_law_moved.nd rfl (.inl rfl)) (pgs_cons (pg_name (i := 8) sc_law_moved.nd rfl (.inl rfl)) pgs_nil))))
      (pss_cons (ps_set (i := 9) sc_law_moved.nd rfl (.inl rfl) (pe_c c_law_end hr (by decide) (by rfl) (pa_cons (pe_ix (r := rIxT K) ix_tup (pv 0) pe_int (fun _ _ => rfl)) (pa_cons (pv 7) (pa_cons (pv 4) (pa_cons (pv 2) pa_nil))))))
      (pss_one (ps_ret (pe_tup (pa_cons (pe_tup (pa_cons (pv 8) (pa_cons (pv 9) (pa_cons (pe_ifExp (pt_cmpR (op_eq) (pv 7) pe_str (nomark _)) (pv 2) (pv 9)) pa_nil)))) (pa_cons (pe_tup (pa_cons (pv 6) (pa_cons (pv 7) pa_nil))) pa_nil)))))))))), ?_⟩
  refine ⟨_, rfl, sa, _, rfl, SqT.of hsa, rfl, _, _, rfl, _, _, rfl, _, _, rfl, rfl, ?_⟩
  refine ⟨_, rfl, rfl, true, rfl, _, rfl, ra, _, _, _, rfl, rfl, SqT.of hra, at_of (j := 0) rfl rfl, _, rfl, _, rfl, vm, R.ms, s.2.1, y, rfl, hm, by have := ty.n; omega, hxy, fun H1 s1 => ?_⟩
  generalize hi : caseOf R.ms s.2.1 y = i
  have hi3 : i < 3 := by rw [← hi]; exact case_lt3 _ _ _
  have eg : goTo R s y = R.pr s.1 i := by unfold goTo; rw [hi]
  rw [eg] at q
  obtain ⟨b, ys, c, ex, hb, ey, hc⟩ := pr_at ty.wf hp hi3 tpa
  refine ⟨_, rfl, rfl, false, rfl, ?_⟩
  refine ⟨_, rfl, ra, _, _, _, rfl, rfl, SqT.of (s1 _ _ hra), at_of (j := 1) rfl rfl, _, rfl, pa, _, _, _, rfl, rfl, SqT.of (s1 _ _ hpa), atI_nat ex, small100 (by show 3 ≤ 1000000; decide), fun l hl => ?_⟩
  have s2 := same_upd (o := .lst [.str "near", .str "at", .str "far"]) hl
  have hl2 : (upd H1 l (.lst [.str "near", .str "at", .str "far"])) l = some (.lst [.str "near", .str "at", .str "far"]) := upd_same
  generalize upd H1 l (.lst [.str "near", .str "at", .str "far"]) = H2 at s2 hl2 ⊢
  have s12 := s1.trans s2
  generalize hgo : R.pr s.1 i = go at q hc
  obtain ⟨mv, nx⟩ := go
  have idx : ∃ z, [V.str "near", .str "at", .str "far"][i]? = some z ∧ eqV z (.str (flS i)) = true ∧ ∀ (m : Nat) (z' : V), m < i → [V.str "near", .str "at", .str "far"][m]? = some z' → eqV z' (.str (flS i)) = false := by
    match i, hi3 with
    | 0, _ => exact ⟨_, rfl, rfl, fun m z' h _ => absurd h (Nat.not_lt_zero _)⟩
    | 1, _ => exact ⟨_, rfl, rfl, fun m z' h e => by
        match m, h with
        | 0, _ => cases e; rfl⟩
    | 2, _ => exact ⟨_, rfl, rfl, fun m z' h e => by
        match m, h with
        | 0, _ => cases e; rfl
        | 1, _ => cases e; rfl⟩
  obtain ⟨z, iz1, iz2, iz3⟩ := idx
  refine ⟨.inl ⟨rfl, _, SqL.of hl2⟩, _, rfl, l, _, _, i, z, rfl, rfl, SqL.of hl2, rfl, rfl, iz1, iz2, iz3, b, _, _, _, rfl, rfl, SqT.of (s12 _ _ hb), atI_nat ey, c, _, rfl, SqT.of (s12 _ _ hc), rfl, _, _, rfl, _, _, rfl, rfl, ?_⟩
  refine ⟨_, rfl, ra, _, _, _, rfl, rfl, SqT.of (s12 _ _ hra), at_of (j := 0) rfl rfl, _, rfl, _, rfl, _, rfl, vm, R.ms, mv, s.2.1, y, rfl, hm.keep (.of s12), by have := ty.n; omega, fun H3 s3 => ?_⟩
  have last : ∀ vl, vl = (if mv = .wait then V.int y else vR (endOf R.ms mv s.2.1 y)) → (3 : Nat) ≤ sizeLine ∧ ∀ e, H3 e = none → ∃ v1, [some (V.ref ra), some (V.ref sa), some (V.int y), some (V.int (s.1 : Nat)), some (V.int s.2.1), some (V.int s.2.2), some (V.str (flS i)), some (V.str (mvS mv)), some (V.int (nx : Nat)), some (vR (endOf R.ms mv s.2.1 y))][6]? = some (some v1) ∧
      ∃ v2, [some (V.ref ra), some (V.ref sa), some (V.int y), some (V.int (s.1 : Nat)), some (V.int s.2.1), some (V.int s.2.2), some (V.str (flS i)), some (V.str (mvS mv)), some (V.int (nx : Nat)), some (vR (endOf R.ms mv s.2.1 y))][7]? = some (some v2) ∧ (2 : Nat) ≤ sizeLine ∧ ∀ g, upd H3 e (.tup [.int (nx : Nat), vR (endOf R.ms mv s.2.1 y), vl]) g = none → (2 : Nat) ≤ sizeLine ∧ ∀ h, upd (upd H3 e (.tup [.int (nx : Nat), vR (endOf R.ms mv s.2.1 y), vl])) g (.tup [v1, v2]) h = none → Q (.ref h) (upd (upd (upd H3 e (.tup [.int (nx : Nat), vR (endOf R.ms mv s.2.1 y), vl])) g (.tup [v1, v2])) h (.tup [.ref e, .ref g])) := fun vl hvl => by
    refine ⟨small100 (by decide), fun e he => ⟨_, rfl, _, rfl, small100 (by decide), fun g hg => ⟨small100 (by decide), fun h hh => ?_⟩⟩⟩
    have s4 := same_upd (o := .tup [.int (nx : Nat), vR (endOf R.ms mv s.2.1 y), vl]) he
    have s5 := same_upd (o := .tup [.str (flS i), .str (mvS mv)]) hg
    have s6 := same_upd (o := .tup [.ref e, .ref g]) hh
    refine q _ h e (.ref g) (s12.trans (s3.trans (s4.trans (s5.trans s6)))) upd_same ?_
    rw [← hvl]
    exact s6 _ _ (s5 _ _ upd_same)
  refine ⟨_, rfl, _, rfl, _, rfl, rfl, _, rfl, ite2 (fun e => ?_) (fun e => ?_)⟩
  · have e : mv = .wait := mv_inj (b := .wait) (of_decide_eq_true e)
    exact ⟨_, rfl, last _ (if_pos e).symm⟩
  · have e : mv ≠ .wait := fun z => e (by rw [z]; exact decide_eq_true rfl)
    exact ⟨_, rfl, last _ (if_neg e).symm⟩
end
end K24
namespace K24
open PySem PySem.Spec PyProof.Rows L2
theorem par_cut {te : TE} {ta : TA} {i j : Nat} {u : TS} {D : Ends} {σ : L2.St} {H : Hp} (Pv : V → Hp → Prop) (h1 : ∀ Q : VK, (∀ v H2, Pv v H2 → Q v H2) → te σ H Q)
    (h2 : ∀ v H2, Pv v H2 → ta σ H2 fun xs H3 => ∃ x y, v :: xs = [x, y] ∧ u D ((σ.set i (some x)).set j (some y)) H3) : tSeq (tPar i j (tCons te ta)) u D σ H := h1 _ h2
theorem atI_end {ms : List Int} (h : 0 < ms.length) : atI (ms.map V.int) (-1) = some (.int (mkAt ms (ms.length - 1))) := by
  have e : ms = ms.dropLast ++ [ms.getLast (List.length_pos_iff.mp h)] := (List.dropLast_concat_getLast _).symm
  have em : mkAt ms (ms.length - 1) = ms.getLast (List.length_pos_iff.mp h) := by
    unfold mkAt
    rw [List.getD_eq_getElem?_getD, ← List.getLast?_eq_getElem?, List.getLast?_eq_some_getLast (List.length_pos_iff.mp h)]; rfl
  rw [em]
  conv => lhs; rw [e]
  rw [List.map_append]
  exact atI_last _ _
theorem tops_b {R : Rule} (t : Tiny R) (i : Nat) : -20 ≤ mkAt (tops R.ms) i ∧ mkAt (tops R.ms) i ≤ 20 := by
  unfold mkAt
  rw [List.getD_eq_getElem?_getD]
  cases e : (tops R.ms)[i]? with
  | none => decide
  | some m =>
    have hm := List.mem_of_getElem? e
    unfold tops at hm
    split at hm
    · rw [List.mem_singleton.mp hm]; decide
    · exact t.b m hm
section
variable {P : Program} {w : World} {K : PySem.W.Frag} {mg : Str → Option Value} {base : Heap} {aC aP fA fS : Addr} {f : Addr} {fd : FuncData}
def sp_window : Sp := fun vs H Q _ => ∃ vr R, vs = [vr] ∧ Tp H vr (encRule R) ∧ Tiny R ∧ ∀ H' a l, Same H H' → H' a = some (.tup [.ref l, .int (mostOf R)]) → H' l = some (.lst ((firsts R).map V.int)) → Q (.ref a) H'
theorem ok_law_window (T : Txt K w mg aC aP fA fS) (D : Dfn K mg "_law_window" s_law_window f fd ["_law_plan_here"]) : FnOk P w K mg base L2.CX0 1 f fd ["_law_plan_here"] sp_window := by
  refine fnok_of D sc_law_window (fun vs H Q E h => by obtain ⟨vr, R, rfl, _⟩ := h; rfl) (fun cdv A outer s H vs Q E hr h => ?_)
  obtain ⟨vr, R, rfl, hR, ty, q⟩ := h
  obtain ⟨ra, vm, pa, xs, rfl, hra, hm, hpa, tpa⟩ := rule_inv hR
  have hu := hu_of hr
  refine ⟨_, (pss_cons (ps_par (i := 1) (j := 2) rfl sc_law_window.nd rfl rfl (by decide) rfl rfl (pa_cons (pe_ifExp (pt_cmpR (op_neD hr.units) (pe_ix (r := rIxT K) ix_tup (pv 0) pe_int (fun _ _ => rfl)) (pe_tup pa_nil) (nomark _)) (pe_ix (r := rIxT K) ix_tup (pv 0) pe_int (fun _ _ => rfl)) (pe_tup (pa_cons pe_int pa_nil))) (pa_cons (pe_callB (r := rLen K) cLen (by rfl) T.len (by decide +kernel) (pa_cons (pe_ix (r := rIxT K) ix_tup (pv 0) pe_int (fun _ _ => rfl)) pa_nil)) pa_nil)) (by rfl))
      (pss_one (ps_ret (pe_tup (pa_cons (pe_listRg rfl (by rfl) T.list (prg_2 (by rfl) T.range (pe_op op_sub (pe_op op_sub (pe_ix (r := rIxT K) ix_tup (pv 1) pe_int (fun _ _ => rfl)) (pv 2)) pe_int) (pe_op op_add (pe_ix (r := rIxT K) ix_tup (pv 1) (pe_un un_neg pe_int) (fun _ _ => rfl)) pe_int))) (pa_cons (pe_op op_add (pe_op op_add (pe_ix (r := rIxT K) ix_tup (pv 1) (pe_un un_neg pe_int) (fun _ _ => rfl)) (pv 2)) pe_int) pa_nil)))))), ?_⟩
  have eN : xs.length = R.N := by rw [tpa.length, List.length_map]; rfl
  refine par_cut (fun v H2 => Same H H2 ∧ Tp H2 v (encMarks (tops R.ms))) (fun Q' hQ => ?_) (fun v H2 hv => ?_)
  · refine ⟨_, rfl, ra, _, _, _, rfl, rfl, SqT.of hra, at_of (j := 0) rfl rfl, Nat.zero_le _, fun p hp => ?_⟩
    have s1 := same_upd (o := .tup []) hp
    refine ⟨encMarks R.ms, .tuple [], (hm.keep (.of s1)).dp, .tup (SqT.of upd_same) .nil, shaped_marks _, rfl, _, rfl, ?_⟩
    unfold encMarks
    rw [eqv_nil_t]
    unfold tops at hQ
    cases em : R.ms with
    | nil =>
      refine ⟨small100 (by show 1 ≤ 1000000; decide), fun c hc => hQ _ _ ⟨s1.trans (same_upd hc), ?_⟩⟩
      rw [if_pos em]
      exact .tup upd_same (.one (.int 0))
    | cons m ms =>
      refine ⟨_, rfl, ra, _, _, _, rfl, rfl, SqT.of (s1 _ _ hra), at_of (j := 0) rfl rfl, hQ _ _ ⟨s1, ?_⟩⟩
      rw [if_neg (fun z => by rw [em] at z; cases z)]
      exact hm.keep (.of s1)
  obtain ⟨s1, hv⟩ := hv
  obtain ⟨ta, rfl, hta⟩ := marks_inv hv
  have tp := tops_pos (ms := R.ms)
  have b0 := tops_b ty 0
  have b1 := tops_b ty ((tops R.ms).length - 1)
  have hN := ty.N
  refine ⟨_, rfl, ra, _, _, _, rfl, rfl, SqT.of (s1 _ _ hra), at_of (j := 1) rfl rfl, pa, _, rfl, .inr (SqT.of (s1 _ _ hpa)), _, _, rfl, ?_⟩
  refine ⟨_, rfl, ta, _, _, _, rfl, rfl, SqT.of hta, at_of (j := 0) rfl (ints_at tp), _, rfl, _, _, rfl, rfl, _, _, rfl, rfl, _, rfl, _, rfl, ta, _, _, _, rfl, rfl, SqT.of hta, atI_end tp, _, _, rfl, rfl, _, _, rfl, rfl, ⟨by omega, by omega, by omega, by omega, by omega⟩, fun l hl => ?_⟩
  have s2 := same_upd (o := .lst (rgV (mkAt (tops R.ms) 0 - (xs.length : Nat) - 2) (mkAt (tops R.ms) ((tops R.ms).length - 1) + 2))) hl
  refine ⟨_, rfl, _, rfl, ta, _, _, _, rfl, rfl, SqT.of (s2 _ _ hta), atI_end tp, _, rfl, _, _, rfl, rfl, _, _, rfl, rfl, small100 (by show 2 ≤ 1000000; decide), fun c hc => ?_⟩
  have s3 := same_upd (o := .tup [.ref l, .int (mkAt (tops R.ms) ((tops R.ms).length - 1) + (xs.length : Nat) + 3)]) hc
  refine q _ c l (s1.trans (s2.trans s3)) ?_ ?_
  · refine upd_same.trans ?_
    rw [eN]; rfl
  · refine (s3 _ _ upd_same).trans ?_
    rw [rg_ints, eN]; rfl
def sp_floor : Sp := fun vs H Q _ => ∃ vr vs', ∃ s : Stand, vs = [vr, vs'] ∧ Tp H vs' (encSt s) ∧ s.2.1 = s.2.2 ∧ Q (.str "near") H
theorem ok_law_floor (T : Txt K w mg aC aP fA fS) (c_law_case : Cal P w K mg base 2 "_law_case" sp_case) (D : Dfn K mg "_law_floor" s_law_floor f fd ["_law_plan_here", "_law_stand"]) : FnOk P w K mg base L2.CX0 3 f fd ["_law_plan_here", "_law_stand"] sp_floor := by
  refine fnok_of D sc_law_floor (fun vs H Q E h => by obtain ⟨vr, vs', s, rfl, _⟩ := h; rfl) (fun cdv A outer s0 H vs Q E hr h => ?_)
  obtain ⟨vr, vs', s, rfl, hs, he, q⟩ := h
  obtain ⟨sa, rfl, hsa⟩ := st_inv hs
  refine ⟨_, (pss_one (ps_ret (pe_ifExp (pt_cmpR (op_eq) (pe_ix (r := rIxT K) ix_tup (pv 1) pe_int (fun _ _ => rfl)) (pe_ix (r := rIxT K) ix_tup (pv 1) pe_int (fun _ _ => rfl)) (nomark _)) pe_str (pe_c c_law_case hr (by decide) (by rfl) (pa_cons (pe_ix (r := rIxT K) ix_tup (pv 0) pe_int (fun _ _ => rfl)) (pa_cons (pe_ix (r := rIxT K) ix_tup (pv 1) pe_int (fun _ _ => rfl)) (pa_cons (pe_ix (r := rIxT K) ix_tup (pv 1) pe_int (fun _ _ => rfl)) pa_nil))))))), ?_⟩
  refine ⟨_, rfl, sa, _, _, _, rfl, rfl, SqT.of hsa, at_of (j := 1) rfl rfl, _, rfl, sa, _, _, _, rfl, rfl, SqT.of hsa, at_of (j := 2) rfl rfl, rfl, _, rfl, ite2 (fun e => q) (fun e => absurd (decide_eq_true (by rw [he])) e)⟩
/-! ### the law's dict of spots -/
def sp_law_spots : Sp := fun vs H Q _ => ∃ vr R l xs, ∃ S : List Stand, vs = [vr, .ref l] ∧ Tp H vr (encRule R) ∧ Tiny R ∧ H l = some (.lst xs) ∧ TpL H xs (S.map encSt) ∧ S.length ≤ 100000 ∧ (∀ s ∈ S, s.2.1 = s.2.2) ∧
  ∀ D, DueS R S D → RetT Q H (.tuple ((sortF D).map encSR))
theorem ok_law_spots (T : Txt K w mg aC aP fA fS) (c_law_floor : Cal P w K mg base 3 "_law_floor" sp_floor) (D : Dfn K mg "_law_spots" s_law_spots f fd ["_law_plan_here", "_law_stands"]) : FnOk P w K mg base L2.CX0 4 f fd ["_law_plan_here", "_law_stands"] sp_law_spots := by
  refine fnok_of D sc_law_spots (fun vs H Q E h => by obtain ⟨vr, R, l, xs, S, rfl, _⟩ := h; rfl) (fun cdv A outer s0 H vs Q E hr h => ?_)
  obtain ⟨vr, R, l, xs, S, rfl, hR, ty, hl, tl, hS, hSe, q⟩ := h
  obtain ⟨ra, vm, pa, ps, rfl, hra, hm, hpa, tpa⟩ := rule_inv hR
  obtain ⟨ma, rfl, hma⟩ := marks_inv hm
  have hu := hu_of hr
  refine ⟨_, (pss_cons (ps_asg (pe_tup (pa_cons pe_dnewT (pa_cons (pe_ix (r := rIxT K) ix_tup (pv 0) pe_int (fun _ _ => rfl)) pa_nil))) (pg_tup rfl (pgs_cons (pg_name (i := 2) sc_law_spots.nd rfl (.inr rfl)) (pgs_cons (pg_name (i := 3) sc_law_spots.nd rfl (.inl rfl)) pgs_nil))))
      (pss_cons (ps_for PassesOwn.never rfl (pi_list (pv 1)) (pg_name (i := 4) sc_law_spots.nd rfl (.inr rfl))
      (pss_cons (ps_set (i := 5) sc_law_spots.nd rfl (.inl rfl) (pe_callB (r := rLen K) cLen (by rfl) T.len (by decide +kernel) (pa_cons (pe_lc (own := [("_law_top", 8)]) (g := gName 8) rfl sc_law_spots.nd (pi_tup (pv 3)) (blkOk_by (own := [("_law_top", 8)]) (N := N_law_spots) (sc := defScope s_law_spots) (by decide +kernel)) (fun _ _ _ _ _ => (pg_name (i := 8) sc_law_spots.nd rfl (.inl rfl))) (fun _ _ _ _ _ => (pts_one (pt_cmpR op_le (pv 8) (pe_ix (r := rIxT K) ix_tup (pv 4) pe_int (fun _ _ => rfl)) (nomark _)))) (fun _ _ _ _ _ => (pv 8))) pa_nil)))
      (pss_cons (ps_set (i := 6) sc_law_spots.nd rfl (.inl rfl) (pe_tup (pa_cons (pe_ix (r := rIxT K) ix_tup (pv 4) pe_int (fun _ _ => rfl)) (pa_cons (pv 5) (pa_cons (pe_c c_law_floor hr (by decide) (by rfl) (pa_cons (pv 0) (pa_cons (pv 4) pa_nil))) pa_nil)))))
      (pss_cons (ps_set (i := 7) sc_law_spots.nd rfl (.inl rfl) pe_non)
      (pss_cons (ps_if (pt_chain op_lt op_lt pe_int (pv 5) (pe_callB (r := rLen K) cLen (by rfl) T.len (by decide +kernel) (pa_cons (pv 3) pa_nil))) (pss_one (ps_set (i := 7) sc_law_spots.nd rfl (.inl rfl) (pe_callB (call_max2 rfl) (by rfl) T.max (by decide +kernel) (pa_cons (pe_dget2 hu (pv 2) (pv 6) pe_int ⟨rfl, rfl, rfl, rfl⟩) (pa_cons (pe_op op_sub (pe_op op_sub (pe_ix (r := rIxT K) ix_tup (pv 3) (pv 5) (fun _ _ => rfl)) (pe_ix (r := rIxT K) ix_tup (pv 4) pe_int (fun _ _ => rfl))) pe_int) pa_nil))))) pss_nil)
      (pss_one (ps_dput hu (pv 2) (pv 6) (pv 7) rfl)))))))
      (pss_one (ps_ret (pe_callTy (r := rTup K) cTup (by rfl) T.tuple (by decide +kernel) (pa_cons (pe_lc (own := [("_law_spot", 6)]) (g := gName 6) rfl sc_law_spots.nd (pi_list (pe_callB (cr_sortedE (enc := encSpot) hr.units) (by rfl) T.sorted (by decide +kernel) (pa_cons (pe_callTy (call_list_dT rfl) (by rfl) T.list (by decide +kernel) (pa_cons (pv 2) pa_nil)) pa_nil))) (blkOk_by (own := [("_law_spot", 6)]) (N := N_law_spots) (sc := defScope s_law_spots) (by decide +kernel)) (fun _ _ _ _ _ => (pg_name (i := 6) sc_law_spots.nd rfl (.inl rfl))) (fun _ _ _ _ _ => pts_nil) (fun _ _ _ _ _ => (pe_tup (pa_cons (pv 6) (pa_cons (pe_dget hu (pv 2) (pv 6) (fun _ _ => rfl)) pa_nil))))) pa_nil)))))), ?_⟩
  refine fun d hd => ?_
  have s1 := same_upd (o := .dT []) hd
  refine ⟨_, rfl, ra, _, _, _, rfl, rfl, SqT.of (s1 _ _ hra), at_of (j := 0) rfl rfl, small100 (by show 2 ≤ 1000000; decide), fun c hc => ?_⟩
  have s2 := same_upd (o := .tup [.ref d, .ref ma]) hc
  refine ⟨c, _, rfl, SqT.of upd_same, rfl, _, _, rfl, _, _, rfl, rfl, ?_⟩
  have hd2 : (upd (upd H d (.dT [])) c (.tup [.ref d, .ref ma])) d = some (.dT (([] : List (Spot × Rm)).map encF)) := s2 _ _ upd_same
  have s12 := s1.trans s2
  generalize upd (upd H d (.dT [])) c (.tup [.ref d, .ref ma]) = H2 at s12 hd2 ⊢
  clear s1 s2 hc
  refine ⟨_, rfl, l, rfl, ⟨_, SqL.of (s12 _ _ hl)⟩, ?_⟩
  refine for_list (K := K) (a := l) (xs := xs) (fun i σ H3 => ∃ y4 y5 y6 y7 y8, ∃ F : List (Spot × Rm), σ = [some (.ref ra), some (.ref l), some (.ref d), some (.ref ma), y4, y5, y6, y7, y8] ∧ Same H H3 ∧ H3 d = some (.dT (F.map encF)) ∧ DueS R (S.take i) F ∧ F.length ≤ i)
    ⟨none, none, none, none, none, [], rfl, s12, hd2, .nil, Nat.zero_le _⟩ (fun i σ H3 _ hP => by obtain ⟨_, _, _, _, _, _, _, s, _⟩ := hP; exact SqL.of (s _ _ hl)) (fun i x σ H3 hx hP => ?_) (fun σ H3 hP => ?_)
  · obtain ⟨y4, y5, y6, y7, y8, F, rfl, s3, hd3, hF, hFl⟩ := hP
    obtain ⟨d0, ed0, tx⟩ := tl.get' hx
    rw [List.getElem?_map] at ed0
    obtain ⟨s, es, rfl⟩ := Option.map_eq_some_iff.mp ed0
    have hsS := List.mem_of_getElem? es
    obtain ⟨sa, rfl, hsa⟩ := st_inv tx
    have hi := (List.getElem?_eq_some_iff.mp es).1
    have et : S.take (i + 1) = S.take i ++ [s] := by rw [List.take_add_one, es]; rfl
    have hF3 : ∀ x ∈ F, x.1.2.2 < 3 := fun x hx => by rw [hF.fl x hx]; decide
    -- the gap
    refine ⟨_, rfl, ma, rfl, ⟨_, SqT.of (s3 _ _ hma)⟩, fun D hD => ?_⟩
    refine lc_tupT (enc := PyData.int) (bs := R.ms) (fun m : Int => if m ≤ s.2.1 then some (PyData.int m) else none) hD (s3 _ _ hma) ints_mk (small100' (by have := ty.n; omega)) (fun v m H4 R' hm' s4 hv h0 h1 => ?_) (fun H4 acc s4 e4 t4 => ?_)
    · have hv := hv.int_inv
      subst hv
      refine ⟨rfl, _, rfl, _, rfl, sa, _, _, _, rfl, rfl, SqT.of (s4 _ _ (s3 _ _ hsa)), at_of (j := 1) rfl rfl, _, _, rfl, rfl, _, rfl, ite2 (fun e => ?_) (fun e => ?_)⟩
      · exact ⟨_, rfl, h1 _ _ _ (Same.refl _) (if_pos (of_decide_eq_true e)) (.int _)⟩
      · exact h0 _ (Same.refl _) (if_neg fun z => e (decide_eq_true z))
    · rw [filterMap_if] at t4
      have eg : acc.length = gapOf R.ms s.2.1 := by rw [t4.length, List.length_map]; rfl
      refine ⟨D, acc, rfl, .inl (SqL.of e4), ?_⟩
      rw [eg]
      have s34 := s3.trans s4
      have hsa4 := s34 _ _ hsa
      refine ⟨_, rfl, sa, _, _, _, rfl, rfl, SqT.of hsa4, at_of (j := 0) rfl rfl, _, rfl, _, rfl, _, rfl, _, _, s, rfl, st_mk hsa4, hSe s hsS, small100 (by show 3 ≤ 1000000; decide), fun c hc => ?_⟩
      have s5 := same_upd (o := .tup [.int (s.1 : Nat), .int (gapOf R.ms s.2.1 : Nat), .str "near"]) hc
      have hc5 : (upd H4 c (.tup [.int (s.1 : Nat), .int (gapOf R.ms s.2.1 : Nat), .str "near"])) c = some (.tup ((spotK (keyOf R s)).map kV)) := upd_same
      have s35 := s34.trans s5
      have hd5 := s5 _ _ (s4 _ _ hd3)
      generalize upd H4 c (.tup [.int (s.1 : Nat), .int (gapOf R.ms s.2.1 : Nat), .str "near"]) = H5 at s35 hc5 hd5 ⊢
      have hget : DGet H5 d (.ref c) (valV (F.map encF) (spotK (keyOf R s))) := DGet.t (k := spotK (keyOf R s)) hd5 hc5
      rw [valV_F hF3 (show (keyOf R s).2.2 < 3 by show 0 < 3; decide)] at hget
      have hgl := (isGap_of ty.wf.asc s.2.1).le
      have fin : ∀ r : Rm, ((gapOf R.ms s.2.1 = 0 ∨ gapOf R.ms s.2.1 = R.ms.length) → r = none) → (0 < gapOf R.ms s.2.1 → gapOf R.ms s.2.1 < R.ms.length → look F (keyOf R s) = none → r = some (if roomOf R.ms s.2.1 > 0 then roomOf R.ms s.2.1 else 0)) →
          (∀ a, 0 < gapOf R.ms s.2.1 → gapOf R.ms s.2.1 < R.ms.length → look F (keyOf R s) = some (some a) → r = some (if roomOf R.ms s.2.1 > a then roomOf R.ms s.2.1 else a)) →
          ∀ (y8 : Option V), ∃ v, [some (V.ref ra), some (V.ref l), some (V.ref d), some (V.ref ma), some (V.ref sa), some (V.int (gapOf R.ms s.2.1 : Nat)), some (V.ref c), some (vR r), y8][7]? = some (some v) ∧ ∃ v1, [some (V.ref ra), some (V.ref l), some (V.ref d), some (V.ref ma), some (V.ref sa), some (V.int (gapOf R.ms s.2.1 : Nat)), some (V.ref c), some (vR r), y8][2]? = some (some v1) ∧
            ∃ v2, [some (V.ref ra), some (V.ref l), some (V.ref d), some (V.ref ma), some (V.ref sa), some (V.int (gapOf R.ms s.2.1 : Nat)), some (V.ref c), some (vR r), y8][6]? = some (some v2) ∧ ∃ a H6, v1 = .ref a ∧ DPut H5 a v2 v H6 ∧
              ∃ z4 z5 z6 z7 z8, ∃ F' : List (Spot × Rm), [some (V.ref ra), some (V.ref l), some (V.ref d), some (V.ref ma), some (V.ref sa), some (V.int (gapOf R.ms s.2.1 : Nat)), some (V.ref c), some (vR r), y8] = [some (V.ref ra), some (V.ref l), some (V.ref d), some (V.ref ma), z4, z5, z6, z7, z8] ∧ Same H H6 ∧ H6 d = some (.dT (F'.map encF)) ∧ DueS R (S.take (i + 1)) F' ∧ F'.length ≤ i + 1 := fun r q1 q2 q3 y8 => by
        refine ⟨_, rfl, _, rfl, _, rfl, d, _, rfl, DPut.t (k := spotK (keyOf R s)) hd5 hc5 (by rw [List.length_map]; exact small100' (by omega)), _, _, _, _, _, putF F (keyOf R s) r, rfl, same_mut s35 hd, ?_, ?_, Nat.le_trans (putF_len _ _ _) (by omega)⟩
        · rw [upd_same, putK_F hF3 (show (keyOf R s).2.2 < 3 by show 0 < 3; decide)]
        · rw [et]
          exact hF.put ty.wf s q1 q2 q3
      refine ⟨_, rfl, _, _, rfl, rfl, _, rfl, ite2 (fun e => ?_) (fun e => ?_)⟩
      · have e : (0 : Int) < (gapOf R.ms s.2.1 : Nat) := of_decide_eq_true e
        refine ⟨_, rfl, ma, _, rfl, .inr (SqT.of (s35 _ _ hma)), _, _, rfl, rfl, _, rfl, ite2 (fun e2 => ?_) (fun e2 => ?_)⟩
        · have e2 := of_decide_eq_true e2
          rw [List.length_map] at e2
          have hg : gapOf R.ms s.2.1 < R.ms.length := by omega
          cases hlk : look F (keyOf R s) with
          | none =>
            rw [hlk] at hget
            refine ⟨_, rfl, d, rfl, .inr ⟨_, .inl hd5⟩, _, rfl, _, hget, _, rfl, _, rfl, ma, _, _, _, rfl, rfl, SqT.of (s35 _ _ hma), atI_nat (ints_at hg), _, rfl, sa, _, _, _, rfl, rfl, SqT.of (s35 _ _ hsa), at_of (j := 1) rfl rfl, _, _, rfl, rfl, _, _, rfl, rfl, _, _, rfl, ?_⟩
            exact fin (some (if roomOf R.ms s.2.1 > 0 then roomOf R.ms s.2.1 else 0)) (fun z => by omega) (fun _ _ _ => rfl) (fun a _ _ h => by rw [hlk] at h; cases h) y8
          | some v =>
            have hm0 := hF.mid _ (look_mem hlk) (show 0 < gapOf R.ms s.2.1 by omega) hg
            obtain ⟨a, ea, _⟩ := hm0
            have ea : v = some a := ea
            rw [ea] at hlk
            rw [hlk] at hget
            refine ⟨_, rfl, d, rfl, .inr ⟨_, .inl hd5⟩, _, rfl, _, hget, _, rfl, _, rfl, ma, _, _, _, rfl, rfl, SqT.of (s35 _ _ hma), atI_nat (ints_at hg), _, rfl, sa, _, _, _, rfl, rfl, SqT.of (s35 _ _ hsa), at_of (j := 1) rfl rfl, _, _, rfl, rfl, _, _, rfl, rfl, _, _, rfl, ?_⟩
            exact fin (some (if roomOf R.ms s.2.1 > a then roomOf R.ms s.2.1 else a)) (fun z => by omega) (fun _ _ h => by rw [hlk] at h; cases h) (fun a' _ _ h => by rw [hlk] at h; cases h; rfl) y8
        · have e2 := fun z => e2 (decide_eq_true z)
          rw [List.length_map] at e2
          have e2 : ¬ ((gapOf R.ms s.2.1 : Nat) : Int) < (R.ms.length : Nat) := e2
          exact fin none (fun _ => rfl) (fun _ h => absurd h (by omega)) (fun a _ h => absurd h (by omega)) y8
      · have e : ¬ (0 : Int) < (gapOf R.ms s.2.1 : Nat) := fun z => e (decide_eq_true z)
        exact ⟨_, rfl, fin none (fun _ => rfl) (fun h => absurd h (by omega)) (fun a h => absurd h (by omega)) y8⟩
  · obtain ⟨y4, y5, y6, y7, y8, F, rfl, s3, hd3, hF, hFl⟩ := hP
    have ez : xs.length = S.length := by rw [tl.length, List.length_map]
    rw [ez] at hF hFl
    rw [List.take_length] at hF
    have hF3 : ∀ x ∈ F, x.1.2.2 < 3 := fun x hx => by rw [hF.fl x hx]; decide
    refine ⟨_, rfl, d, _, rfl, .inl hd3, fun p bs hp hk => ?_⟩
    have s4 := same_upd (o := .lst (bs.map V.ref)) hp
    have he := keys_each hk
    have he1 : PySem.W.EachIs (OnSpot (upd H3 p (.lst (bs.map V.ref)))) bs (F.map (·.1)) := each_mono he fun b k ⟨vs, h1, h2⟩ => ⟨vs, s4 _ _ h1, h2.keep (.of s4)⟩
    refine ⟨p, bs, F.map (fun x : Spot × Rm => x.1), rfl, SqL.of upd_same, he1, fun b b' => rfl, fun b => ⟨_, _, rfl⟩, fun b => Nat.le_of_ble_eq_true rfl, fun o bs' ho he2 => ?_⟩
    have he2 : PySem.W.EachIs (OnSpot (upd H3 p (.lst (bs.map V.ref)))) bs' (keysOf F) := he2
    have s5 := same_upd (o := .lst (bs'.map V.ref)) ho
    refine ⟨o, rfl, ⟨_, SqL.of upd_same⟩, fun D hD => ?_⟩
    have t2 := (each_tpl he2).keep (.of s5)
    refine lc_listT (fun k : Spot => some (encSR (k, (look F k).getD none))) hD (SqL.of upd_same) t2 (by rw [keysOf_len]; exact small100' (by omega)) (fun x k H6 R' hk s6 hx h0 h1 => ?_) (fun H6 acc s6 e t => ?_)
    · obtain ⟨ka, rfl, hka⟩ := spot_inv hx
      obtain ⟨r, hr1, hr2⟩ := keysOf_look hF.nd hk
      have hv : valV (F.map encF) (spotK k) = some (vR r) := by rw [valV_F hF3 (hF3 _ hr2), hr1]; rfl
      have hget : DGet H6 d (.ref ka) (valV (F.map encF) (spotK k)) := DGet.t (k := spotK k) (s6 _ _ (s5 _ _ (s4 _ _ hd3))) hka
      rw [hv] at hget
      refine ⟨rfl, _, rfl, _, rfl, _, rfl, d, _, rfl, hget, small100 (by show 2 ≤ 1000000; decide), fun c hc => ?_⟩
      have s7 := same_upd (o := .tup [.ref ka, vR r]) hc
      refine h1 _ _ _ s7 rfl ?_
      rw [hr1]
      exact .tup upd_same (.two ((spot_mk (s := k) hka).keep (.of s7)) (tp_R r))
    · refine ⟨D, acc, rfl, .inl ⟨SqL.of e, fun l2 hl2 => ?_⟩⟩
      have s7 := same_upd (o := .tup acc) hl2
      refine q F hF _ _ (s3.trans (s4.trans (s5.trans (s6.trans s7)))) (.tup upd_same ?_)
      rw [List.filterMap_eq_map'] at t
      unfold sortF
      rw [List.map_map]
      exact TpL.keep (.of s7) t
end
end K24
namespace K24
open PySem PySem.Spec PyProof.Rows L2
/-! ### the law's search -/
def standK (s : Stand) : List Key := [.inl (s.1 : Nat), .inl s.2.1, .inl s.2.2]
theorem standK_inj {a b : Stand} (h : standK a = standK b) : a = b := by
  obtain ⟨p, x, l⟩ := a
  obtain ⟨p', x', l'⟩ := b
  unfold standK at h
  injection h with h1 h
  injection h with h2 h
  injection h with h3 _
  have e1 : ((p : Nat) : Int) = (p' : Nat) := Sum.inl.inj h1
  have e2 : x = x' := Sum.inl.inj h2
  have e3 : l = l' := Sum.inl.inj h3
  have e1 : p = p' := by omega
  rw [e1, e2, e3]
structure Seen (kvs : List (List Key × V)) (S : List Stand) : Prop where
  iff : ∀ s, (valV kvs (standK s)).isSome = true ↔ s ∈ S
  len : kvs.length ≤ S.length
theorem Seen.nil : Seen [] [] := ⟨fun s => ⟨fun h => (by cases h), fun h => (nomatch h)⟩, Nat.le_refl _⟩
theorem putK_len {kvs : List (List Key × V)} {k : List Key} {v : V} : (putK kvs k v).length ≤ kvs.length + 1 := by
  unfold putK
  split
  · rw [List.length_map]; omega
  · rw [List.length_append, List.length_singleton]; omega
theorem Seen.put {kvs : List (List Key × V)} {S : List Stand} (h : Seen kvs S) (s : Stand) (v : V) : Seen (putK kvs (standK s) v) (S ++ [s]) := by
  refine ⟨fun t => ?_, by rw [List.length_append, List.length_singleton]; exact Nat.le_trans putK_len (by have := h.len; omega)⟩
  rw [valV_put, List.mem_append, List.mem_singleton]
  by_cases e : t = s
  · rw [if_pos (by rw [e]), e]
    exact ⟨fun _ => .inr rfl, fun _ => rfl⟩
  · rw [if_neg (fun z => e (standK_inj z)), h.iff]
    exact ⟨.inl, fun z => z.resolve_right e⟩
theorem lates_gt {s : Stand} {most y : Int} (h : s.2.1 ≤ s.2.2) (hy : y ∈ lates most s) : s.2.1 < y := by
  unfold lates at hy
  split at hy
  · have := mem_rangeI.mp hy
    omega
  · rw [List.mem_singleton.mp hy]; omega
section
variable {P : Program} {w : World} {K : PySem.W.Frag} {mg : Str → Option Value} {base : Heap} {aC aP fA fS : Addr} {f : Addr} {fd : FuncData}
def sp_law_reached : Sp := fun vs H Q _ => ∃ vr R l, vs = [vr, .ref l, .int (mostOf R), .bl true] ∧ Tp H vr (encRule R) ∧ Tiny R ∧ H l = some (.lst ((firsts R).map V.int)) ∧
  ∀ H' o xs (S : List Stand), Same H H' → H o = none → H' o = some (.lst xs) → TpL H' xs (S.map encSt) → (∀ s, s ∈ S ↔ CRl R s) → S.length ≤ 70000 → Q (.ref o) H'
theorem ok_law_reached (T : Txt K w mg aC aP fA fS) (c_law_moved : Cal P w K mg base 3 "_law_moved" sp_moved) (D : Dfn K mg "_law_reached" s_law_reached f fd ["_law_plan_here", "_law_firsts", "_law_most", "_law_is_steady"]) :
    FnOk P w K mg base L2.CX0 4 f fd ["_law_plan_here", "_law_firsts", "_law_most", "_law_is_steady"] sp_law_reached := by
  refine fnok_of D sc_law_reached (fun vs H Q E h => by obtain ⟨vr, R, l, rfl, _⟩ := h; rfl) (fun cdv A outer s0 H vs Q E hr h => ?_)
  obtain ⟨vr, R, l, rfl, hR, ty, hl, q⟩ := h
  have hu := hu_of hr
  refine ⟨_, (pss_cons (ps_par3 (i := 4) (j := 5) (l := 6) rfl sc_law_reached.nd rfl rfl rfl (by decide) (by decide) (by decide) rfl rfl rfl (pa_cons pe_dnewT (pa_cons (pe_lc (own := [("_law_at", 11)]) (g := gName 11) rfl sc_law_reached.nd (pi_list (pv 1)) (blkOk_by (own := [("_law_at", 11)]) (N := N_law_reached) (sc := defScope s_law_reached) (by decide +kernel)) (fun _ _ _ _ _ => (pg_name (i := 11) sc_law_reached.nd rfl (.inl rfl))) (fun _ _ _ _ _ => pts_nil) (fun _ _ _ _ _ => (pe_tup (pa_cons pe_int (pa_cons (pv 11) (pa_cons (pv 11) pa_nil)))))) (pa_cons pe_int pa_nil))) (by rfl))
      (pss_cons (ps_for PassesOwn.never rfl (pi_list (pv 5)) (pg_name (i := 7) sc_law_reached.nd rfl (.inl rfl))
      (pss_one (ps_dput hu (pv 4) (pv 7) pe_bl rfl)))
      (pss_cons (ps_while PassesOwn.never (pt_cmpR op_lt (pv 6) (pe_callB (r := rLen K) cLen (by rfl) T.len (by decide +kernel) (pa_cons (pv 5) pa_nil)) (nomark _)) (pss_cons (ps_set (i := 7) sc_law_reached.nd rfl (.inl rfl) (pe_ix (r := rIxL K) ix_list (pv 5) (pv 6) (fun _ _ => rfl)))
      (pss_cons (ps_set (i := 6) sc_law_reached.nd rfl (.inl rfl) (pe_op op_add (pv 6) pe_int))
      (pss_cons (ps_set (i := 8) sc_law_reached.nd rfl (.inl rfl) (pe_lst (pa_cons (pe_ix (r := rIxT K) ix_tup (pv 7) pe_int (fun _ _ => rfl)) pa_nil)))
      (pss_cons (ps_if (PW.pt (pw_and (pt_cmpR op_notN (pe_ix (r := rIxT K) ix_tup (pv 7) pe_int (fun _ _ => rfl)) pe_non (nomark _)) (pw_and1 (PW.pt (pw_or (pt_not (pt_val (pv 3))) (pw_or1 (pt_cmpR (op_eq) (pe_ix (r := rIxT K) ix_tup (pv 7) pe_int (fun _ _ => rfl)) (pe_ix (r := rIxT K) ix_tup (pv 7) pe_int (fun _ _ => rfl)) (nomark _)))))))) (pss_one (ps_set (i := 8) sc_law_reached.nd rfl (.inl rfl) (pe_op op_cat (pe_listRg rfl (by rfl) T.list (prg_2 (by rfl) T.range (pe_op op_add (pe_ix (r := rIxT K) ix_tup (pv 7) pe_int (fun _ _ => rfl)) (pe_callTy call_int1 (by rfl) T.int (by decide +kernel) (pa_cons (pe_cmpR (op_eq) (pe_ix (r := rIxT K) ix_tup (pv 7) pe_int (fun _ _ => rfl)) (pe_ix (r := rIxT K) ix_tup (pv 7) pe_int (fun _ _ => rfl)) (nomark _)) pa_nil))) (pe_op op_add (pv 2) pe_int))) (pe_ifExp (pt_val (pv 3)) (pe_lst pa_nil) (pe_lst (pa_cons pe_non pa_nil)))))) pss_nil)
      (pss_one (ps_for PassesOwn.never rfl (pi_list (pv 8)) (pg_name (i := 9) sc_law_reached.nd rfl (.inl rfl))
      (pss_cons (ps_set (i := 10) sc_law_reached.nd rfl (.inl rfl) (pe_ix (r := rIxT K) ix_tup (pe_c c_law_moved hr (by decide) (by rfl) (pa_cons (pv 0) (pa_cons (pv 7) (pa_cons (pv 9) pa_nil)))) pe_int (fun _ _ => rfl)))
      (pss_one (ps_if (PW.pt (pw_and (pt_cmpR op_notN (pe_ix (r := rIxT K) ix_tup (pv 10) pe_int (fun _ _ => rfl)) pe_non (nomark _)) (pw_and1 (pt_cmp (pc_dnotin hu (pv 10) (pv 4)))))) (pss_cons (ps_dput hu (pv 4) (pv 10) pe_bl rfl)
      (pss_one (ps_expr (pe_bm PySem.F.plainAttrs_list PySem.F.slot_list_append PySem.F.type_list_append mt_append (pv 5) (pa_cons (pv 10) pa_nil))))) pss_nil))))))))))
      (pss_one (ps_ret (pv 5)))))), ?_⟩
  have hok : ∀ {s}, CRl R s → CrOk R s := fun h => cr_ok ty.wf ty.b ty.N h
  have few10 : ∀ {S : List Stand}, S.Nodup → (∀ s ∈ S, CRl R s) → S.length ≤ 65610 := fun nd h => Nat.le_trans (few nd fun s hs => (hok (h s hs)).u) (by have := ty.N; omega)
  refine fun d hd => ?_
  have s1 := same_upd (o := .dT []) hd
  refine ⟨_, rfl, l, rfl, ⟨_, SqL.of (s1 _ _ hl)⟩, fun o ho => ?_⟩
  have hf0 := few10 BF.start.nd BF.start.sound
  rw [List.length_map] at hf0
  refine lc_listT (enc := PyData.int) (bs := firsts R) (fun x : Int => some (encSt (0, x, x))) ho (SqL.of (s1 _ _ hl)) ints_mk (small100' (by omega)) (fun v x H2 R' hx' s2 hv h0 h1 => ?_) (fun H2 ls s2 e2 t2 => ?_)
  · have hv := hv.int_inv
    subst hv
    refine ⟨rfl, _, rfl, _, rfl, small100 (by show 3 ≤ 1000000; decide), fun c hc => ?_⟩
    exact h1 _ _ _ (same_upd hc) rfl (st_mk (s := (0, x, x)) upd_same)
  rw [List.filterMap_eq_map'] at t2
  have t2 : TpL H2 ls (((firsts R).map fun x => ((0, x, x) : Stand)).map encSt) := by rw [List.map_map]; exact t2
  have hd2 := s2 _ _ (show (upd H d (.dT [])) d = some (.dT []) from upd_same)
  have s12 := s1.trans s2
  have ho0 : H o = none := s1.free ho
  have ndo : d ≠ o := fun z => by rw [← z, upd_same] at ho; cases ho
  refine ⟨_, _, _, rfl, ?_⟩
  generalize hS0 : ((firsts R).map fun x => ((0, x, x) : Stand)) = S0 at t2
  have B0 : BF R S0 0 := by rw [← hS0]; exact BF.start
  have hlS : S0.length ≤ 65610 := few10 B0.nd B0.sound
  -- the first ones are seen
  refine ⟨_, rfl, o, rfl, ⟨_, SqL.of e2⟩, ?_⟩
  refine for_list (K := K) (a := o) (xs := ls) (fun i σ H3 => ∃ y7 y8 y9 y10 y11 kvs, σ = [some vr, some (.ref l), some (.int (mostOf R)), some (.bl true), some (.ref d), some (.ref o), some (.int 0), y7, y8, y9, y10, y11] ∧ Same H H3 ∧ H3 d = some (.dT kvs) ∧ H3 o = some (.lst ls) ∧ TpL H3 ls (S0.map encSt) ∧ Seen kvs (S0.take i))
    ⟨none, none, none, none, none, [], rfl, s12, hd2, e2, t2, .nil⟩ (fun i σ H3 _ hP => by obtain ⟨_, _, _, _, _, _, _, _, _, h, _⟩ := hP; exact SqL.of h) (fun i x σ H3 hx hP => ?_) (fun σ H3 hP => ?_)
  · obtain ⟨y7, y8, y9, y10, y11, kvs, rfl, s3, hd3, ho3, t3, sn⟩ := hP
    obtain ⟨d0, ed0, tx⟩ := t3.get' hx
    rw [List.getElem?_map] at ed0
    obtain ⟨s, es, rfl⟩ := Option.map_eq_some_iff.mp ed0
    obtain ⟨sa, rfl, hsa⟩ := st_inv tx
    have et : S0.take (i + 1) = S0.take i ++ [s] := by rw [List.take_add_one, es]; rfl
    have hkl : kvs.length < sizeLine := small100' (Nat.le_trans sn.len (by rw [List.length_take]; omega))
    refine ⟨_, rfl, _, rfl, d, _, rfl, DPut.t (k := standK s) hd3 hsa hkl, _, _, _, _, _, _, rfl, same_mut s3 hd, upd_same, ?_, t3.keep (.dctT hd3), ?_⟩
    · rw [upd_ne ndo.symm]; exact ho3
    · rw [et]; exact sn.put s _
  · obtain ⟨y7, y8, y9, y10, y11, kvs, rfl, s3, hd3, ho3, t3, sn⟩ := hP
    have ez : ls.length = S0.length := by rw [t3.length, List.length_map]
    rw [ez, List.take_length] at sn
    clear t2 e2 hd2 s12
    -- while k < len(queue)
    refine ⟨fun m σ H4 => ∃ k y7 y8 y9 y10 y11 kvs, ∃ S : List Stand, ∃ ls, σ = [some vr, some (.ref l), some (.int (mostOf R)), some (.bl true), some (.ref d), some (.ref o), some (.int (k : Nat)), y7, y8, y9, y10, y11] ∧ Same H H4 ∧ H4 d = some (.dT kvs) ∧ H4 o = some (.lst ls) ∧ TpL H4 ls (S.map encSt) ∧ Seen kvs S ∧ BF R S k ∧ m = 70000 - k,
      ⟨70000, 0, y7, y8, y9, y10, y11, kvs, S0, ls, rfl, s3, hd3, ho3, t3, sn, B0, rfl⟩, fun m σ H4 hW => ?_⟩
    clear s3 hd3 ho3 t3 sn ez
    obtain ⟨k, y7, y8, y9, y10, y11, kvs, S, ls, rfl, s4, hd4, ho4, t4, sn, bf, hmk⟩ := hW
    have hll : ls.length = S.length := by rw [t4.length, List.length_map]
    have hSl := few10 bf.nd bf.sound
    refine ⟨_, rfl, _, rfl, o, _, rfl, .inl (SqL.of ho4), _, _, rfl, rfl, _, rfl, ite2 (fun e => ?_) (fun e => ?_)⟩
    · have e : (k : Int) < (ls.length : Nat) := of_decide_eq_true e
      have hk : k < S.length := by omega
      have es : S[k]? = some S[k] := List.getElem?_eq_getElem hk
      generalize S[k] = s at es
      obtain ⟨v, hv, tv⟩ := t4.get (i := k) (d := encSt s) (by rw [List.getElem?_map, es]; rfl)
      obtain ⟨sa, rfl, hsa⟩ := st_inv tv
      have hcs : CRl R s := bf.sound s (List.mem_of_getElem? es)
      have hco := hok hcs
      have hlm : mostOf R ≤ 33 ∧ -40 ≤ s.2.2 ∧ s.2.2 ≤ 40 := by
        have h1 := (tops_b ty ((tops R.ms).length - 1)).2
        have h2 := ty.N
        have h3 := hco.u.l
        unfold mostOf
        omega
      have hlm0 : -40 ≤ mostOf R := by
        have h1 := (tops_b ty ((tops R.ms).length - 1)).1
        unfold mostOf
        omega
      refine ⟨fun σ' H' => ∃ m', m' < m ∧ ∃ k y7 y8 y9 y10 y11 kvs, ∃ S : List Stand, ∃ ls, σ' = [some vr, some (.ref l), some (.int (mostOf R)), some (.bl true), some (.ref d), some (.ref o), some (.int (k : Nat)), y7, y8, y9, y10, y11] ∧ Same H H' ∧ H' d = some (.dT kvs) ∧ H' o = some (.lst ls) ∧ TpL H' ls (S.map encSt) ∧ Seen kvs S ∧ BF R S k ∧ m' = 70000 - k, fun σ' H' h => h, ?_⟩
      refine ⟨_, rfl, _, rfl, o, ls, _, .ref sa, rfl, rfl, SqL.of ho4, atI_nat hv, ?_⟩
      refine ⟨_, rfl, _, _, rfl, rfl, ?_⟩
      refine ⟨_, rfl, sa, _, _, _, rfl, rfl, SqT.of hsa, at_of (j := 2) rfl rfl, small100 (by show 1 ≤ 1000000; decide), fun l1 hl1 => ?_⟩
      have s5 := same_upd (o := .lst [.int s.2.2]) hl1
      have hl5 : (upd H4 l1 (.lst [.int s.2.2])) l1 = some (.lst [.int s.2.2]) := upd_same
      have hsa5 := s5 _ _ hsa
      have hd5 := s5 _ _ hd4
      have ho5 := s5 _ _ ho4
      have t5 := t4.keep (.of s5)
      have s45 := s4.trans s5
      have nl1 : l1 ≠ o ∧ l1 ≠ d := ⟨fun z => (by rw [z, ho4] at hl1; cases hl1), fun z => (by rw [z, hd4] at hl1; cases hl1)⟩
      generalize upd H4 l1 (.lst [.int s.2.2]) = H5 at s45 hl5 hsa5 hd5 ho5 t5 ⊢
      clear s5 hl1 hsa hd4 ho4 t4 tv hv s4
      have ek : (k : Int) + 1 = ((k + 1 : Nat) : Int) := by omega
      dsimp only [gName]
      rw [ek]
      refine seq_cut (fun σ' H' => ∃ lb, σ' = [some vr, some (.ref l), some (.int (mostOf R)), some (.bl true), some (.ref d), some (.ref o), some (.int (k + 1 : Nat)), some (.ref sa), some (.ref lb), y9, y10, y11] ∧ Same H H' ∧ Same H5 H' ∧ (lb ≠ o ∧ lb ≠ d) ∧ H' lb = some (.lst ((lates (mostOf R) s).map V.int))) (fun D' hD' => ?_) (fun σ' H' hP => ?_)
      · refine ⟨_, rfl, sa, _, _, _, rfl, rfl, SqT.of hsa5, at_of (j := 2) rfl rfl, rfl, true, rfl, _, rfl, true, rfl, ?_⟩
        refine ⟨_, rfl, sa, _, _, _, rfl, rfl, SqT.of hsa5, at_of (j := 1) rfl rfl, _, rfl, sa, _, _, _, rfl, rfl, SqT.of hsa5, at_of (j := 2) rfl rfl, rfl, _, rfl, ite2 (fun e2 => ?_) (fun e2 => ?_)⟩
        · have e2 : s.2.1 = s.2.2 := V.int.inj (of_decide_eq_true e2)
          refine ⟨_, rfl, sa, _, _, _, rfl, rfl, SqT.of hsa5, at_of (j := 2) rfl rfl, _, rfl, sa, _, _, _, rfl, rfl, SqT.of hsa5, at_of (j := 1) rfl rfl, _, rfl, sa, _, _, _, rfl, rfl, SqT.of hsa5, at_of (j := 2) rfl rfl, rfl, .inr ⟨_, rfl, _, _, rfl, rfl, ?_⟩⟩
          have eb : (if decide (V.int s.2.1 = V.int s.2.2) = true then (1 : Int) else 0) = 1 := by rw [e2, decide_eq_true rfl]; rfl
          rw [eb]
          refine ⟨_, rfl, _, _, rfl, rfl, _, _, rfl, rfl, ⟨by omega, by omega, by omega, by omega, by omega⟩, fun p hp => ?_⟩
          have s6 := same_upd (o := .lst (rgV (s.2.2 + 1) (mostOf R + 1))) hp
          refine ⟨_, rfl, true, rfl, small100 (by show 0 ≤ 1000000; decide), fun p2 hp2 => ?_⟩
          have s7 := same_upd (o := .lst []) hp2
          refine ⟨p, p2, _, _, rfl, rfl, s7 _ _ upd_same, upd_same, by rw [rgV_length]; show _ + 0 ≤ _; exact small100 (by omega), fun p3 hp3 => ?_⟩
          have s8 := same_upd (o := .lst (rgV (s.2.2 + 1) (mostOf R + 1) ++ [])) hp3
          have s := s6.trans (s7.trans s8)
          refine hD' _ _ ⟨p3, rfl, s45.trans s, s, ⟨fun z => (by rw [z, (s6.trans s7) _ _ ho5] at hp3; cases hp3), fun z => (by rw [z, (s6.trans s7) _ _ hd5] at hp3; cases hp3)⟩, upd_same.trans ?_⟩
          rw [List.append_nil, rg_ints]
          unfold lates
          rw [if_pos e2]
        · have e2 : s.2.1 ≠ s.2.2 := fun z => e2 (decide_eq_true (by rw [z]))
          refine hD' _ _ ⟨l1, rfl, s45, Same.refl _, nl1, ?_⟩
          unfold lates
          rw [if_neg e2]
          exact hl5
      obtain ⟨lb, rfl, sH, s6, ⟨nbo, nbd⟩, hlb⟩ := hP
      have hsa6 := s6 _ _ hsa5
      have hd6 := s6 _ _ hd5
      have ho6 := s6 _ _ ho5
      have t6 := t5.keep (.of s6)
      clear hsa5 hd5 ho5 t5 s6 hl5 s45
      refine ⟨_, rfl, lb, rfl, ⟨_, SqL.of hlb⟩, ?_⟩
      refine for_list (K := K) (a := lb) (xs := (lates (mostOf R) s).map V.int) (fun j σ H7 => ∃ y9 y10 y11 kvs, ∃ S : List Stand, ∃ ls, σ = [some vr, some (.ref l), some (.int (mostOf R)), some (.bl true), some (.ref d), some (.ref o), some (.int (k + 1 : Nat)), some (.ref sa), some (.ref lb), y9, y10, y11] ∧ Same H H7 ∧ H7 d = some (.dT kvs) ∧ H7 o = some (.lst ls) ∧ H7 lb = some (.lst ((lates (mostOf R) s).map V.int)) ∧
          H7 sa = some (.tup [.int (s.1 : Nat), .int s.2.1, .int s.2.2]) ∧ TpL H7 ls (S.map encSt) ∧ Seen kvs S ∧ BF R S k ∧ S[k]? = some s ∧ ∀ y ∈ (lates (mostOf R) s).take j, ∀ s', movedTo R s y = some s' → s' ∈ S)
        ⟨y9, y10, y11, kvs, S, ls, rfl, sH, hd6, ho6, hlb, hsa6, t6, sn, bf, es, fun y hy => by cases hy⟩
        (fun j σ H7 _ hP => by obtain ⟨_, _, _, _, _, _, _, _, _, _, h, _⟩ := hP; exact SqL.of h) (fun j z σ H7 hz hP => ?_) (fun σ H7 hP => ?_)
      · obtain ⟨z9, z10, z11, kv7, S7, ls7, rfl, s7, hd7, ho7, hb7, hsa7, t7, sn7, bf7, es7, cov⟩ := hP
        rw [List.getElem?_map] at hz
        obtain ⟨y, ey, rfl⟩ := Option.map_eq_some_iff.mp hz
        have hy : y ∈ lates (mostOf R) s := List.mem_of_getElem? ey
        have hxy := lates_gt hco.le hy
        have etk : (lates (mostOf R) s).take (j + 1) = (lates (mostOf R) s).take j ++ [y] := by rw [List.take_add_one, ey]; rfl
        have hls7 : ls7.length = S7.length := by rw [t7.length, List.length_map]
        have hS7 := few10 bf7.nd bf7.sound
        refine ⟨_, rfl, _, rfl, _, rfl, vr, R, _, s, y, rfl, hR.keep (.of s7), ty, st_mk hsa7, hco.u.p, hxy, fun H8 a b v2 s8 ha hb => ⟨a, _, _, _, rfl, rfl, SqT.of ha, at_of (j := 0) rfl rfl, ?_⟩⟩
        have hd8 := s8 _ _ hd7
        have ho8 := s8 _ _ ho7
        have hb8 := s8 _ _ hb7
        have hsa8 := s8 _ _ hsa7
        have t8 := t7.keep (.of s8)
        have s78 := s7.trans s8
        have em : movedTo R s y = (endOf R.ms (goTo R s y).1 s.2.1 y).map fun e => ((goTo R s y).2, e, if (goTo R s y).1 = .wait then y else e) := rfl
        have skip : (∀ s', movedTo R s y = some s' → s' ∈ S7) → ∃ w9 w10 w11 kvs, ∃ S : List Stand, ∃ ls, [some vr, some (.ref l), some (.int (mostOf R)), some (.bl true), some (.ref d), some (.ref o), some (.int (k + 1 : Nat)), some (.ref sa), some (.ref lb), some (V.int y), some (.ref b), z11] = [some vr, some (.ref l), some (.int (mostOf R)), some (.bl true), some (.ref d), some (.ref o), some (.int (k + 1 : Nat)), some (.ref sa), some (.ref lb), w9, w10, w11] ∧ Same H H8 ∧ H8 d = some (.dT kvs) ∧ H8 o = some (.lst ls) ∧ H8 lb = some (.lst ((lates (mostOf R) s).map V.int)) ∧
          H8 sa = some (.tup [.int (s.1 : Nat), .int s.2.1, .int s.2.2]) ∧ TpL H8 ls (S.map encSt) ∧ Seen kvs S ∧ BF R S k ∧ S[k]? = some s ∧ ∀ y ∈ (lates (mostOf R) s).take (j + 1), ∀ s', movedTo R s y = some s' → s' ∈ S := fun h => by
          refine ⟨_, _, _, kv7, S7, ls7, rfl, s78, hd8, ho8, hb8, hsa8, t8, sn7, bf7, es7, fun u hu => ?_⟩
          rw [etk] at hu
          rcases List.mem_append.mp hu with h' | h'
          · exact cov u h'
          · rw [List.mem_singleton.mp h']; exact h
        cases een : endOf R.ms (goTo R s y).1 s.2.1 y with
        | none =>
          rw [een] at hb em
          refine ⟨_, rfl, b, _, _, _, rfl, rfl, SqT.of hb, at_of (j := 1) rfl rfl, rfl, false, rfl, ?_⟩
          exact skip fun s' e => by rw [em] at e; cases e
        | some en =>
          rw [een] at hb em
          have hb' : H8 b = some (.tup ((standK ((goTo R s y).2, en, if (goTo R s y).1 = .wait then y else en)).map kV)) := by
            rw [hb]
            show some (HO.tup [_, _, _]) = some (HO.tup [_, _, _])
            split <;> rfl
          have em : movedTo R s y = some ((goTo R s y).2, en, if (goTo R s y).1 = .wait then y else en) := em
          generalize ((goTo R s y).2, en, if (goTo R s y).1 = .wait then y else en) = s' at hb' em
          clear een hb
          have hb1 : H8 b = some (.tup [.int (s'.1 : Nat), .int s'.2.1, .int s'.2.2]) := hb'
          have hget : DGet H8 d (.ref b) (valV kv7 (standK s')) := DGet.t (k := standK s') hd8 hb'
          refine ⟨_, rfl, b, _, _, _, rfl, rfl, SqT.of hb1, at_of (j := 1) rfl rfl, rfl, true, rfl, _, rfl, _, rfl, d, _, rfl, hget, _, rfl, ?_⟩
          cases hin : (valV kv7 (standK s')).isSome with
          | true => exact skip fun t e => by rw [em] at e; cases e; exact (sn7.iff s').mp hin
          | false =>
            have hni : s' ∉ S7 := fun h => by rw [(sn7.iff s').mpr h] at hin; cases hin
            have hkl : kv7.length < sizeLine := small100' (Nat.le_trans sn7.len (by omega))
            refine ⟨_, rfl, _, rfl, d, _, rfl, DPut.t (k := standK s') hd8 hb' hkl, ?_⟩
            have k9 : KT H8 (upd H8 d (.dT (putK kv7 (standK s') (.bl true)))) := .dctT hd8
            have ho9 : (upd H8 d (.dT (putK kv7 (standK s') (.bl true)))) o = some (.lst ls7) := by rw [upd_ne ndo.symm]; exact ho8
            refine ⟨_, rfl, .inl ⟨rfl, _, SqL.of ho9⟩, _, rfl, o, ls7, .ref b, rfl, rfl, ho9, small100' (by omega), _, _, _, _, S7 ++ [s'], ls7 ++ [.ref b], rfl, same_mut (same_mut s78 hd) ho0, ?_, upd_same, ?_, ?_, ?_, sn7.put s' (.bl true), bf7.more (CRl.step hcs hy em) hni, ?_, fun u hu t et => ?_⟩
            · rw [upd_ne ndo, upd_same]
            · rw [upd_ne nbo, upd_ne nbd]; exact hb8
            · exact (k9.trans (.lst ho9)) _ _ hsa8
            · rw [List.map_append]
              exact TpL.keep (k9.trans (.lst ho9)) (t8.app (.one (st_mk hb1)))
            · rw [List.getElem?_append_left (List.getElem?_eq_some_iff.mp es7).1]; exact es7
            · rw [etk] at hu
              rcases List.mem_append.mp hu with h' | h'
              · exact List.mem_append_left _ (cov u h' t et)
              · rw [List.mem_singleton.mp h', em] at et
                cases et
                exact List.mem_append_right _ List.mem_cons_self
      · obtain ⟨z9, z10, z11, kv7, S7, ls7, rfl, s7, hd7, ho7, hb7, hsa7, t7, sn7, bf7, es7, cov⟩ := hP
        rw [List.length_map, List.take_length] at cov
        exact ⟨70000 - (k + 1), by omega, k + 1, _, _, _, _, _, kv7, S7, ls7, rfl, s7, hd7, ho7, t7, sn7, bf7.next es7 cov, rfl⟩
    · have e : ¬ (k : Int) < (ls.length : Nat) := fun z => e (decide_eq_true z)
      have hkS : k = S.length := by have := bf.kle; omega
      rw [hkS] at bf
      exact ⟨_, rfl, q H4 o ls S s4 ho0 ho4 t4 bf.all (by omega)⟩
end
end K24
namespace K24
open PySem PySem.Spec PyProof.Rows L2
/-! ### the two sorted tuples are one -/
theorem le_anti {a b : Spot} (fa : a.2.2 = 0) (fb : b.2.2 = 0) (h1 : PySem.W.dataLe false encSpot a b = true) (h2 : PySem.W.dataLe false encSpot b a = true) : a = b := by
  have e1 : PyProof.Rows.lexLt PyProof.Rows.itemOrd (PySem.W.keyToks (encSpot b)) (PySem.W.keyToks (encSpot a)) = false := by simpa using (show (!PyProof.Rows.lexLt PyProof.Rows.itemOrd (PySem.W.keyToks (encSpot b)) (PySem.W.keyToks (encSpot a))) = true from h1)
  have e2 : PyProof.Rows.lexLt PyProof.Rows.itemOrd (PySem.W.keyToks (encSpot a)) (PySem.W.keyToks (encSpot b)) = false := by simpa using (show (!PyProof.Rows.lexLt PyProof.Rows.itemOrd (PySem.W.keyToks (encSpot a)) (PySem.W.keyToks (encSpot b))) = true from h2)
  have e := PyProof.Rows.lex_total _ _ e1 e2
  obtain ⟨p, g, f⟩ := a
  obtain ⟨p', g', f'⟩ := b
  have fa : f = 0 := fa
  have fb : f' = 0 := fb
  subst fa fb
  simp only [encSpot, PySem.W.keyToks, PySem.W.keyToksAll] at e
  injection e with _ e
  injection e with e1 e
  injection e with _ e
  injection e with e2 e
  have e1 : ((p' : Nat) : Int) = (p : Nat) := Sum.inl.inj e1
  have e2 : ((g' : Nat) : Int) = (g : Nat) := Sum.inl.inj e2
  have e1 : p = p' := by omega
  have e2 : g = g' := by omega
  rw [e1, e2]
theorem keysOf_eq {F D : List (Spot × Rm)} (nF : (F.map (·.1)).Nodup) (nD : (D.map (·.1)).Nodup) (zF : ∀ y ∈ F, y.1.2.2 = 0) (zD : ∀ y ∈ D, y.1.2.2 = 0) (h : ∀ y, y ∈ F ↔ y ∈ D) : keysOf F = keysOf D := by
  have hp : (F.map (·.1)).Perm (D.map (·.1)) := (List.perm_ext_iff_of_nodup nF nD).mpr fun k => by
    constructor
    · intro hk
      obtain ⟨y, hy, e⟩ := List.mem_map.mp hk
      exact List.mem_map.mpr ⟨y, (h y).mp hy, e⟩
    · intro hk
      obtain ⟨y, hy, e⟩ := List.mem_map.mp hk
      exact List.mem_map.mpr ⟨y, (h y).mpr hy, e⟩
  have ht := PySem.W.sortLe_total (PyProof.Rows.listOrd PyProof.Rows.itemOrd) false fun b => PySem.W.keyToks (encSpot b)
  refine List.Perm.eq_of_pairwise (le := fun a b => PySem.W.dataLe false encSpot a b = true) (fun a b ha hb h1 h2 => le_anti ?_ ?_ h1 h2) (PySem.W.sort_pairwise ht _) (PySem.W.sort_pairwise ht _) ((List.mergeSort_perm _ _).trans (hp.trans (List.mergeSort_perm _ _).symm))
  · obtain ⟨y, hy, e⟩ := List.mem_map.mp (mem_keysOf.mp ha)
    rw [← e]; exact zF y hy
  · obtain ⟨y, hy, e⟩ := List.mem_map.mp (mem_keysOf.mp hb)
    rw [← e]; exact zD y hy
theorem sortF_eq {F D : List (Spot × Rm)} (nF : (F.map (·.1)).Nodup) (nD : (D.map (·.1)).Nodup) (zF : ∀ y ∈ F, y.1.2.2 = 0) (zD : ∀ y ∈ D, y.1.2.2 = 0) (h : ∀ y, y ∈ F ↔ y ∈ D) : sortF F = sortF D := by
  unfold sortF
  rw [keysOf_eq nF nD zF zD h]
  refine List.map_congr_left fun k hk => ?_
  obtain ⟨r, h1, h2⟩ := keysOf_look nD hk
  rw [h1, mem_look nF ((h _).mpr h2)]
theorem mem_sortF {F : List (Spot × Rm)} (nd : (F.map (·.1)).Nodup) {y : Spot × Rm} : y ∈ sortF F ↔ y ∈ F := by
  unfold sortF
  constructor
  · intro h
    obtain ⟨k, hk, rfl⟩ := List.mem_map.mp h
    obtain ⟨r, h1, h2⟩ := keysOf_look nd hk
    rw [h1]; exact h2
  · intro h
    refine List.mem_map.mpr ⟨y.1, mem_keysOf.mpr (List.mem_map.mpr ⟨y, h, rfl⟩), ?_⟩
    rw [mem_look nd h]; rfl
theorem sortF_keys (F : List (Spot × Rm)) : (sortF F).map (·.1) = keysOf F := by
  unfold sortF
  rw [List.map_map]
  exact List.map_id _
theorem sortF_nodup {F : List (Spot × Rm)} (nd : (F.map (·.1)).Nodup) : ((sortF F).map (·.1)).Nodup := by
  rw [sortF_keys]
  exact (List.mergeSort_perm _ _).nodup_iff.mpr nd
theorem sortF_len (F : List (Spot × Rm)) : (sortF F).length = F.length := by
  unfold sortF
  rw [List.length_map, keysOf_len]
/-! ### their texts are short -/
structure Sh (w dep : Nat) (d : PyData) : Prop where
  s : d.showable = true
  h : d.hasDict = false
  dp : d.depth ≤ dep
  l : d.leavesShort 8 = true
  wt : d.weight ≤ w
theorem Sh.all {w dep : Nat} : ∀ {ds : List PyData}, (∀ d ∈ ds, Sh w dep d) → PyData.showableAll ds = true ∧ PyData.hasDictAll ds = false ∧ PyData.depthAll ds ≤ dep ∧ PyData.leavesShortAll 8 ds = true ∧ PyData.weightAll ds ≤ ds.length * (w + 1)
  | [], _ => ⟨rfl, rfl, Nat.zero_le _, rfl, Nat.zero_le _⟩
  | d :: ds, h => by
    have h1 := h d List.mem_cons_self
    obtain ⟨a, b, c, e, f⟩ := Sh.all (ds := ds) fun x hx => h x (List.mem_cons_of_mem _ hx)
    refine ⟨?_, ?_, ?_, ?_, ?_⟩
    · rw [PyData.showableAll, h1.s, a]; rfl
    · rw [PyData.hasDictAll, h1.h, b]; rfl
    · rw [PyData.depthAll]; exact Nat.max_le.mpr ⟨h1.dp, c⟩
    · rw [PyData.leavesShortAll, h1.l, e]; rfl
    · rw [PyData.weightAll, List.length_cons, Nat.add_mul, Nat.one_mul]
      have := h1.wt
      omega
theorem Sh.tup {w dep : Nat} {ds : List PyData} (h : ∀ d ∈ ds, Sh w dep d) : Sh (ds.length * (w + 1)) (dep + 1) (.tuple ds) := by
  obtain ⟨a, b, c, e, f⟩ := Sh.all h
  refine ⟨?_, ?_, ?_, ?_, ?_⟩
  · rw [PyData.showable]; exact a
  · rw [PyData.hasDict]; exact b
  · rw [PyData.depth]; omega
  · rw [PyData.leavesShort]; exact e
  · rw [PyData.weight]; exact f
theorem Sh.mono {w w' dep dep' : Nat} {d : PyData} (h : Sh w dep d) (hw : w ≤ w') (hd : dep ≤ dep') : Sh w' dep' d := ⟨h.s, h.h, Nat.le_trans h.dp hd, h.l, Nat.le_trans h.wt hw⟩
theorem sh_int {i : Int} (h1 : -1000 ≤ i) (h2 : i ≤ 1000) : Sh 11 0 (.int i) := by
  have hl : i.natAbs < 10 ^ 7 := by
    have : (10 : Nat) ^ 7 = 10000000 := by decide
    omega
  have hg : i.natAbs.log2 < 11 := by
    by_cases h0 : i.natAbs = 0
    · rw [h0]; decide
    · exact (Nat.log2_lt h0).mpr (by have : (2 : Nat) ^ 11 = 2048 := by decide
                                     omega)
  refine ⟨?_, rfl, Nat.le_refl _, ?_, ?_⟩
  · rw [PyData.showable]; exact decide_eq_true (by omega)
  · rw [PyData.leavesShort]
    refine decide_eq_true ?_
    rw [PyData.shown]
    rw [PySem.ofString_length]
    exact int_text_length_le10 (k := 7) (by decide) hl
  · rw [PyData.weight]
    split <;> omega
theorem sh_nat {n : Nat} (h : n ≤ 1000) : Sh 11 0 (.int (n : Nat)) := sh_int (by omega) (by omega)
theorem sh_none : Sh 11 0 .none := ⟨rfl, rfl, Nat.le_refl _, rfl, Nat.zero_le _⟩
theorem sh_fl {f : Nat} (h : f < 3) : Sh 11 0 (.str (flS f)) := by
  match f, h with
  | 0, _ => exact ⟨rfl, rfl, Nat.le_refl _, by decide +kernel, by decide +kernel⟩
  | 1, _ => exact ⟨rfl, rfl, Nat.le_refl _, by decide +kernel, by decide +kernel⟩
  | 2, _ => exact ⟨rfl, rfl, Nat.le_refl _, by decide +kernel, by decide +kernel⟩
theorem sh_mv (m : Mv) : Sh 11 0 (.str (mvS m)) := by
  cases m <;> exact ⟨rfl, rfl, Nat.le_refl _, by decide +kernel, by decide +kernel⟩
theorem sh_rm {R : Rule} {B : Int} {x : Spot × Rm} (d : Dm R B x) (hB : B ≤ 1000) : Sh 11 0 (dR x.2) := by
  cases e : x.2 with
  | none => exact sh_none
  | some a =>
    have := d.r a e
    exact sh_int (by omega) (by omega)
theorem sh_sr {R : Rule} {B : Int} (t : Small R B) {x : Spot × Rm} (d : Dm R B x) : Sh 76 2 (encSR x) := by
  have h1 : Sh 36 1 (encSpot x.1) := by
    refine (Sh.tup (w := 11) (dep := 0) (ds := [.int (x.1.1 : Nat), .int (x.1.2.1 : Nat), .str (flS x.1.2.2)]) fun y hy => ?_)
    simp only [List.mem_cons, List.not_mem_nil, or_false] at hy
    rcases hy with rfl | rfl | rfl
    · exact sh_nat (by have := d.p; have := t.N; omega)
    · exact sh_nat (by have := d.g; have := t.n; omega)
    · exact sh_fl d.f
  refine (Sh.tup (w := 36) (dep := 1) (ds := [encSpot x.1, dR x.2]) fun y hy => ?_).mono (Nat.le_of_ble_eq_true rfl) (Nat.le_of_ble_eq_true rfl)
  simp only [List.mem_cons, List.not_mem_nil, or_false] at hy
  rcases hy with rfl | rfl
  · exact h1
  · exact (sh_rm d (by have := t.b1; omega)).mono (by decide) (by decide)
theorem sh_told {R : Rule} {B : Int} (t : Small R B) {F : List (Spot × Rm)} (nd : (F.map (·.1)).Nodup) (dF : ∀ x ∈ F, Dm R B x) : Sh 50000 3 (.tuple ((sortF F).map encSR)) := by
  have hl := Nat.le_trans (F_len nd dF) t.le
  refine (Sh.tup (w := 76) (dep := 2) fun y hy => ?_).mono ?_ (Nat.le_refl _)
  · obtain ⟨x, hx, rfl⟩ := List.mem_map.mp hy
    exact sh_sr t (dF x ((mem_sortF nd).mp hx))
  · rw [List.length_map, sortF_len]
    omega
theorem sh_rule {R : Rule} (t : Tiny R) : Sh 5000 4 (encRule R) := by
  have h1 : Sh 120 1 (encMarks R.ms) := by
    refine (Sh.tup (w := 11) (dep := 0) fun y hy => ?_).mono (by rw [List.length_map]; have := t.n; omega) (Nat.le_refl _)
    obtain ⟨m, hm, rfl⟩ := List.mem_map.mp hy
    have := t.b m hm
    exact sh_int (by omega) (by omega)
  have hp : ∀ P ∈ R.ph, Sh 75 2 (.tuple (P.map encPair)) := fun P hP => by
    obtain ⟨h3, hlt⟩ := t.wf.ok P hP
    refine (Sh.tup (w := 24) (dep := 1) fun y hy => ?_).mono (by rw [List.length_map, h3]; decide) (Nat.le_refl _)
    obtain ⟨m, hm, rfl⟩ := List.mem_map.mp hy
    refine (Sh.tup (w := 11) (dep := 0) (ds := [.str (mvS m.1), .int (m.2 : Nat)]) fun y hy => ?_)
    simp only [List.mem_cons, List.not_mem_nil, or_false] at hy
    rcases hy with rfl | rfl
    · exact sh_mv _
    · exact sh_nat (by have := hlt m hm; have := t.N; omega)
  have h2 : Sh 760 3 (encPhases R.ph) := by
    refine (Sh.tup (w := 75) (dep := 2) fun y hy => ?_).mono (by rw [List.length_map]; have : R.ph.length ≤ 10 := t.N; omega) (Nat.le_refl _)
    obtain ⟨P, hP, rfl⟩ := List.mem_map.mp hy
    exact hp P hP
  refine (Sh.tup (w := 760) (dep := 3) (ds := [encMarks R.ms, encPhases R.ph]) fun y hy => ?_).mono (Nat.le_of_ble_eq_true rfl) (Nat.le_refl _)
  simp only [List.mem_cons, List.not_mem_nil, or_false] at hy
  rcases hy with rfl | rfl
  · exact h1.mono (by decide) (by decide)
  · exact h2
theorem Sh.fit {w dep : Nat} {d : PyData} (h : Sh w dep d) (hw : w ≤ 2 ^ 20) : d.shown.length ≤ sizeLine := PyData.shown_fits (B := 8) (by decide) (by decide) h.l (Nat.le_trans h.wt hw)
section
variable {P : Program} {w : World} {K : PySem.W.Frag} {mg : Str → Option Value} {base : Heap} {aC aP fA fS : Addr} {f : Addr} {fd : FuncData}
/-! ### the law -/
def sp_law (K : PySem.W.Frag) : Sp := fun vs H Q _ => ∃ (l : Addr) (cs : List Int), vs = [.ref l] ∧ SqL K H l (cs.map V.int) ∧ cs.length ≤ 63 ∧ ∀ H', Q (.bl true) H'
theorem ok_law (T : Txt K w mg aC aP fA fS) (c_law_feed : Cal P w K mg base 1 "_law_feed" (sp_feed K)) (c_law_draw : Cal P w K mg base 1 "_law_draw" sp_draw) (c_law_pick : Cal P w K mg base 2 "_law_pick" sp_pick) (c_law_small : Cal P w K mg base 4 "_law_small" sp_small) (c_law_chain : Cal P w K mg base 1 "_law_chain" sp_chain)
    (c_law_window : Cal P w K mg base 1 "_law_window" sp_window) (c_law_reached : Cal P w K mg base 4 "_law_reached" sp_law_reached) (c_law_spots : Cal P w K mg base 4 "_law_spots" sp_law_spots) (c_steady_spots : Cal P w K mg base 7 "steady_spots" (sp_spots steadySteps)) (c_spots_of : Cal P w K mg base 7 "spots_of" (sp_spots anySteps))
    (D : Dfn K mg "law" s_law f fd ["_law_script"]) (hr : Room 8 callerA) : LawFn P w K mg base 7 f fd "_law_script" (sp_law K) := by
  refine law_fn D.fn sc_law hr (fun cdv s0 H a Q hr hg h => ?_)
  obtain ⟨l, cs, e, hl, hc, q⟩ := h
  cases e
  have hu := hu_of hr
  have hu2 : (callerA.deeper (envOfC "law" (defScope s_law) s0.heap.objs.size f cdv)).units + 100 < cLine := by have := hr.un; omega
  refine ⟨_, (pss_cons (ps_set (i := 1) sc_law.nd rfl (.inl rfl) (pe_c c_law_feed hr (by decide) (by rfl) (pa_cons (pv 0) pa_nil)))
      (pss_cons (ps_set (i := 2) sc_law.nd rfl (.inl rfl) (pe_c c_law_pick hr (by decide) (by rfl) (pa_cons (pv 1) (pa_cons (pe_lst (pa_cons (pe_tup (pa_cons pe_str (pa_cons pe_int pa_nil))) (pa_cons (pe_tup (pa_cons pe_str (pa_cons pe_int pa_nil))) (pa_cons (pe_tup (pa_cons pe_str (pa_cons pe_int pa_nil))) (pa_cons (pe_tup (pa_cons pe_str (pa_cons pe_int pa_nil))) pa_nil))))) pa_nil))))
      (pss_cons (ps_set (i := 3) sc_law.nd rfl (.inl rfl) (pe_tup (pa_cons (pe_tup (pa_cons pe_int (pa_cons pe_int pa_nil))) (pa_cons (pe_c c_law_chain hr (by decide) (by rfl) (pa_cons (pe_op op_add pe_int (pe_c c_law_draw hr (by decide) (by rfl) (pa_cons (pv 1) (pa_cons pe_int pa_nil)))) (pa_cons (pe_c c_law_draw hr (by decide) (by rfl) (pa_cons (pv 1) (pa_cons pe_int pa_nil))) (pa_cons pe_str (pa_cons (pv 2) pa_nil))))) pa_nil))))
      (pss_cons (ps_for PassesOwn.never rfl (pi_range1 (by rfl) T.range (pa_cons pe_int pa_nil)) (pg_name (i := 4) sc_law.nd rfl (.inl rfl))
      (pss_cons (ps_set (i := 5) sc_law.nd rfl (.inl rfl) (pe_ifExp (pt_cmpR (op_eq) (pv 4) pe_int (nomark _)) (pv 3) (pe_c c_law_small hr (by decide) (by rfl) (pa_cons (pv 1) pa_nil))))
      (pss_cons (ps_set (i := 6) sc_law.nd rfl (.inl rfl) (pe_callB (call_reprD hg hu2) (by rfl) T.repr (by decide +kernel) (pa_cons (pv 5) pa_nil)))
      (pss_cons (ps_asg (pe_c c_law_window hr (by decide) (by rfl) (pa_cons (pv 5) pa_nil)) (pg_tup rfl (pgs_cons (pg_name (i := 7) sc_law.nd rfl (.inl rfl)) (pgs_cons (pg_name (i := 8) sc_law.nd rfl (.inl rfl)) pgs_nil))))
      (pss_cons (ps_set (i := 9) sc_law.nd rfl (.inl rfl) (pe_c c_law_reached hr (by decide) (by rfl) (pa_cons (pv 5) (pa_cons (pv 7) (pa_cons (pv 8) (pa_cons pe_bl pa_nil))))))
      (pss_cons (ps_set (i := 10) sc_law.nd rfl (.inl rfl) (pe_c c_law_spots hr (by decide) (by rfl) (pa_cons (pv 5) (pa_cons (pe_lc (own := [("_law_stand", 15)]) (g := gName 15) rfl sc_law.nd (pi_list (pv 9)) (blkOk_by (own := [("_law_stand", 15)]) (N := N_law) (sc := defScope s_law) (by decide +kernel)) (fun _ _ _ _ _ => (pg_name (i := 15) sc_law.nd rfl (.inl rfl))) (fun _ _ _ _ _ => (pts_one (pt_cmpR (op_eq) (pe_ix (r := rIxT K) ix_tup (pv 15) pe_int (fun _ _ => rfl)) (pe_ix (r := rIxT K) ix_tup (pv 15) pe_int (fun _ _ => rfl)) (nomark _)))) (fun _ _ _ _ _ => (pv 15))) pa_nil))))
      (pss_cons (ps_set (i := 11) sc_law.nd rfl (.inl rfl) (pe_c c_steady_spots hr (by decide) (by rfl) (pa_cons (pv 5) pa_nil)))
      (pss_cons (ps_if (PW.pt (pw_or (pt_cmpR (op_ne) (pe_callB (call_reprD hg hu2) (by rfl) T.repr (by decide +kernel) (pa_cons (pv 11) pa_nil)) (pe_callB (call_reprD hg hu2) (by rfl) T.repr (by decide +kernel) (pa_cons (pv 10) pa_nil)) (nomark _)) (pw_or1 (pt_cmpR (op_ne) (pe_callB (call_reprD hg hu2) (by rfl) T.repr (by decide +kernel) (pa_cons (pv 5) pa_nil)) (pv 6) (nomark _))))) (pss_one (ps_ret pe_bl)) pss_nil)
      (pss_cons (ps_set (i := 12) sc_law.nd rfl (.inl rfl) (pe_callTy (call_dictT rfl hr.units) (by rfl) T.dict (by decide +kernel) (pa_cons (pe_callTy call_list_of (by rfl) T.list (by decide +kernel) (pa_cons (pe_c c_spots_of hr (by decide) (by rfl) (pa_cons (pv 5) pa_nil)) pa_nil)) pa_nil)))
      (pss_one (ps_for PassesOwn.never rfl (pi_tup (pv 11)) (pg_tup rfl (pgs_cons (pg_name (i := 13) sc_law.nd rfl (.inl rfl)) (pgs_cons (pg_name (i := 14) sc_law.nd rfl (.inl rfl)) pgs_nil)))
      (pss_one (ps_if (PW.pt (pw_or (pt_cmp (pc_dnotin hu (pv 13) (pv 12))) (pw_or1 (PW.pt (pw_and (pt_cmpR op_notN (pv 14) pe_non (nomark _)) (pw_and1 (PW.pt (pw_or (pt_cmpR op_isN (pe_dget hu (pv 12) (pv 13) (fun _ _ => rfl)) pe_non (nomark _)) (pw_or1 (pt_cmpR op_lt (pe_dget hu (pv 12) (pv 13) (fun _ _ => rfl)) (pv 14) (nomark _))))))))))) (pss_one (ps_ret pe_bl)) pss_nil)))))))))))))
      (pss_one (ps_ret pe_bl)))))), ?_⟩
  refine ⟨_, rfl, a, cs, rfl, hl, hc, fun H1 f pc s1 _ F1 => ?_⟩
  -- the last pair
  refine ⟨_, rfl, small100 (by show 2 ≤ 1000000; decide), fun p1 h1 => ⟨small100 (by show 2 ≤ 1000000; decide), fun p2 h2 => ⟨small100 (by show 2 ≤ 1000000; decide), fun p3 h3 => ⟨small100 (by show 2 ≤ 1000000; decide), fun p4 h4 => ⟨small100 (by show 4 ≤ 1000000; decide), fun p5 h5 => ?_⟩⟩⟩⟩⟩
  have u1 := same_upd (o := .tup [.str "take", .int 0]) h1
  have u2 := same_upd (o := .tup [.str "next", .int 1]) h2
  have u3 := same_upd (o := .tup [.str "out", .int 0]) h3
  have u4 := same_upd (o := .tup [.str "wait", .int 0]) h4
  have u5 := same_upd (o := .lst [.ref p1, .ref p2, .ref p3, .ref p4]) h5
  have F5 := F1.same (u1.trans (u2.trans (u3.trans (u4.trans u5))))
  have t1 := (u2.trans (u3.trans (u4.trans u5))) _ _ (show (upd H1 p1 (.tup [.str "take", .int 0])) p1 = some (.tup [.str "take", .int 0]) from upd_same)
  have t2 := (u3.trans (u4.trans u5)) _ _ (show (upd (upd H1 p1 (.tup [.str "take", .int 0])) p2 (.tup [.str "next", .int 1])) p2 = some (.tup [.str "next", .int 1]) from upd_same)
  have t3 := (u4.trans u5) _ _ (show (upd (upd (upd H1 p1 (.tup [.str "take", .int 0])) p2 (.tup [.str "next", .int 1])) p3 (.tup [.str "out", .int 0])) p3 = some (.tup [.str "out", .int 0]) from upd_same)
  have t4 := u5 _ _ (show (upd (upd (upd (upd H1 p1 (.tup [.str "take", .int 0])) p2 (.tup [.str "next", .int 1])) p3 (.tup [.str "out", .int 0])) p4 (.tup [.str "wait", .int 0])) p4 = some (.tup [.str "wait", .int 0]) from upd_same)
  have t5 : (upd (upd (upd (upd (upd H1 p1 (.tup [.str "take", .int 0])) p2 (.tup [.str "next", .int 1])) p3 (.tup [.str "out", .int 0])) p4 (.tup [.str "wait", .int 0])) p5 (.lst [.ref p1, .ref p2, .ref p3, .ref p4])) p5 = some (.lst [.ref p1, .ref p2, .ref p3, .ref p4]) := upd_same
  generalize upd (upd (upd (upd (upd H1 p1 (.tup [.str "take", .int 0])) p2 (.tup [.str "next", .int 1])) p3 (.tup [.str "out", .int 0])) p4 (.tup [.str "wait", .int 0])) p5 (.lst [.ref p1, .ref p2, .ref p3, .ref p4]) = H5 at F5 t1 t2 t3 t4 t5 ⊢
  clear u1 u2 u3 u4 u5 h1 h2 h3 h4 h5 F1 s1 hl
  refine ⟨f, pc, p5, _, rfl, F5, t5, Nat.succ_pos _, Nat.le_of_ble_eq_true rfl, fun H6 vp k6 F6 hvp => ?_⟩
  have hm : ∃ m : Mv × Nat, Tp H6 vp (encPair m) ∧ m.2 < 4 := by
    have kt := F5.kt k6
    simp only [List.mem_cons, List.not_mem_nil, or_false] at hvp
    rcases hvp with rfl | rfl | rfl | rfl
    · exact ⟨(.take, 0), .tup (kt _ _ t1) (.two (.str _) (.int _)), by decide⟩
    · exact ⟨(.next, 1), .tup (kt _ _ t2) (.two (.str _) (.int _)), by decide⟩
    · exact ⟨(.out, 0), .tup (kt _ _ t3) (.two (.str _) (.int _)), by decide⟩
    · exact ⟨(.wait, 0), .tup (kt _ _ t4) (.two (.str _) (.int _)), by decide⟩
  obtain ⟨m, tm, hm4⟩ := hm
  clear hvp k6 F5 t1 t2 t3 t4 t5
  -- the chain
  refine ⟨small100 (by show 2 ≤ 1000000; decide), fun p hp => ?_⟩
  have u7 := same_upd (o := .tup [.int 0, .int 2]) hp
  have F7 := F6.same u7
  have tp7 : (upd H6 p (.tup [.int 0, .int 2])) p = some (.tup [.int 0, .int 2]) := upd_same
  have tm7 := tm.keep (.of u7)
  generalize upd H6 p (.tup [.int 0, .int 2]) = H7 at F7 tp7 tm7 ⊢
  clear u7 hp F6 tm
  refine ⟨_, rfl, f, pc, 3, rfl, F7, by decide, by decide, fun H8 n k8 F8 hn => ⟨_, _, rfl, rfl, _, rfl, f, pc, 3, rfl, F8, by decide, by decide, fun H9 k k9 F9 hk => ?_⟩⟩
  have kt79 := (F7.kt k8).trans (F8.kt k9)
  have en : (4 : Int) + (n : Nat) = ((4 + n : Nat) : Int) := by omega
  refine ⟨_, rfl, 4 + n, k, vp, m, by rw [← en]; rfl, tm7.keep kt79, by omega, by omega, by omega, hk, fun H10 vc ph s10 tc hph hpok => ⟨small100 (by show 2 ≤ 1000000; decide), fun c hc => ?_⟩⟩
  have u11 := same_upd (o := .tup [.ref p, vc]) hc
  have tR : Tp (upd H10 c (.tup [.ref p, vc])) (.ref c) (encRule ⟨[0, 2], ph⟩) := .tup upd_same (.two (.tup (u11 _ _ (s10 _ _ (kt79 _ _ tp7))) (.two (.int 0) (.int 2))) (tc.keep (.of u11)))
  have F11 : FeedOk (upd H10 c (.tup [.ref p, vc])) f pc := F9.same (s10.trans u11)
  have ty0 : Tiny ⟨[0, 2], ph⟩ := by
    refine ⟨⟨by simp, by show 0 < ph.length; omega, fun P hP => ?_⟩, Nat.le_of_ble_eq_true rfl, by show ph.length ≤ 10; omega, fun m hm => ?_⟩
    · obtain ⟨h1, h2⟩ := hpok P hP
      exact ⟨h1, fun x hx => by have := h2 x hx; show x.2 < ph.length; omega⟩
    · simp only [List.mem_cons, List.not_mem_nil, or_false] at hm
      rcases hm with rfl | rfl <;> decide
  generalize upd H10 c (.tup [.ref p, vc]) = H11 at tR F11 ⊢
  generalize (⟨[0, 2], ph⟩ : Rule) = R0 at tR ty0
  clear kt79 tm7 tp7 F7 F8 F9 k8 k9 s10 tc hph hpok u11 hc
  -- three rules
  refine ⟨_, rfl, by decide, by decide, ?_⟩
  refine for_range (fun i σ H => ∃ y4 y5 y6 y7 y8 y9 y10 y11 y12 y13 y14 y15, σ = [some (.ref a), some (.ref f), some vp, some (.ref c), y4, y5, y6, y7, y8, y9, y10, y11, y12, y13, y14, y15] ∧ FeedOk H f pc ∧ Tp H (.ref c) (encRule R0))
    ⟨none, none, none, none, none, none, none, none, none, none, none, none, rfl, F11, tR⟩ (fun i σ H hi hP => ?_) (fun σ H hP => ?_)
  · obtain ⟨y4, y5, y6, y7, y8, y9, y10, y11, y12, y13, y14, y15, rfl, F1, tc1⟩ := hP
    dsimp only [gName]
    refine asg_cut (fun v H2 => FeedOk H2 f pc ∧ Tp H2 (.ref c) (encRule R0) ∧ ∃ R, Tp H2 v (encRule R) ∧ Tiny R) (fun Q' hQ => ?_) (fun v H2 hv => ?_)
    · refine ⟨_, rfl, rfl, _, rfl, ite2 (fun e => ?_) (fun e => ?_)⟩
      · exact ⟨_, rfl, hQ _ _ ⟨F1, tc1, R0, tc1, ty0⟩⟩
      · exact ⟨_, rfl, f, pc, rfl, F1, fun H2 v R k2 F2 tv ty => hQ _ _ ⟨F2, tc1.keep (F1.kt k2), R, tv, ty⟩⟩
    obtain ⟨F2, tc2, R, tv, ty⟩ := hv
    obtain ⟨ra, _, _, _, rfl, _, _, _, _⟩ := rule_inv tv
    have shR := sh_rule ty
    have sm := ty.small
    dsimp only [gName]
    -- repr, the window, the states
    refine ⟨_, rfl, ra, encRule R, rfl, tv.dp, shR.s, shR.h, Nat.le_trans shR.dp (by decide), shR.fit (by decide), ?_⟩
    refine ⟨_, rfl, _, R, rfl, tv, ty, fun H3 wa lf s3 hwa hlf => ⟨wa, _, rfl, SqT.of hwa, rfl, _, _, rfl, _, _, rfl, rfl, ?_⟩⟩
    refine ⟨_, rfl, _, rfl, _, rfl, _, R, lf, rfl, tv.keep (.of s3), ty, hlf, fun H4 o xs S s4 _ eo to hS hSl => ?_⟩
    have s24 := s3.trans s4
    refine ⟨_, rfl, _, rfl, o, rfl, ⟨_, SqL.of eo⟩, fun D hD => ?_⟩
    refine lc_listT (enc := encSt) (bs := S) (fun s : Stand => if s.2.1 = s.2.2 then some (encSt s) else none) hD (SqL.of eo) to (small100' (by omega)) (fun x s H5 R' hs s5 hx h0 h1 => ?_) (fun H5 acc s5 e5 t5 => ?_)
    · obtain ⟨sa, rfl, hsa⟩ := st_inv hx
      refine ⟨rfl, _, rfl, sa, _, _, _, rfl, rfl, SqT.of hsa, at_of (j := 1) rfl rfl, _, rfl, sa, _, _, _, rfl, rfl, SqT.of hsa, at_of (j := 2) rfl rfl, rfl, _, rfl, ite2 (fun e => ?_) (fun e => ?_)⟩
      · exact ⟨_, rfl, h1 _ _ _ (Same.refl _) (if_pos (V.int.inj (of_decide_eq_true e))) hx⟩
      · exact h0 _ (Same.refl _) (if_neg fun z => e (decide_eq_true (by rw [z])))
    rw [filterMap_if] at t5
    have s25 := s24.trans s5
    have hlen : (S.filter fun s => decide (s.2.1 = s.2.2)).length ≤ 100000 := Nat.le_trans (List.length_filter_le _ _) (by omega)
    refine ⟨_, R, D, acc, _, rfl, tv.keep (.of s25), ty, e5, t5, hlen, fun s hs => of_decide_eq_true (List.mem_filter.mp hs).2, fun Dd hDd H6 vd s6 td => ?_⟩
    have due : Due R Dd := hDd.due fun s => by rw [List.mem_filter, hS, decide_eq_true_eq]
    have s26 := s25.trans s6
    refine ⟨_, rfl, _, R, 40, rfl, tv.keep (.of s26), sm, fun Fs hFs dFs H7 vt s7 tt => ?_⟩
    have told := told_due sm.wf sm.bd hFs due
    have zF : ∀ y ∈ Fs, y.1.2.2 = 0 := fun y hy => (due.mem y ((told y).mp hy)).1
    have zD : ∀ y ∈ Dd, y.1.2.2 = 0 := fun y hy => (due.mem y hy).1
    have eS := sortF_eq hFs.nd due.nd zF zD told
    have shT := sh_told sm hFs.nd dFs
    rw [← eS] at td
    obtain ⟨da, dxs, rfl, hda, tdl⟩ := td.tup_inv
    obtain ⟨ta, txs, rfl, hta, ttl⟩ := tt.tup_inv
    have s27 := s26.trans s7
    refine ⟨_, rfl, ta, _, rfl, tt.dp, shT.s, shT.h, Nat.le_trans shT.dp (by decide), shT.fit (by decide), _, rfl, da, _, rfl, (td.keep (.of s7)).dp, shT.s, shT.h, Nat.le_trans shT.dp (by decide), shT.fit (by decide), rfl, _, rfl, ?_⟩
    rw [decide_eq_true rfl]
    refine ⟨_, rfl, ra, encRule R, rfl, (tv.keep (.of s27)).dp, shR.s, shR.h, Nat.le_trans shR.dp (by decide), shR.fit (by decide), _, rfl, rfl, _, rfl, ?_⟩
    rw [decide_eq_true rfl]
    -- the rooms of spots_of
    refine ⟨_, rfl, _, R, 40, rfl, tv.keep (.of s27), sm, fun G hG dG H8 vg s8 tg => ?_⟩
    obtain ⟨ga, gxs, rfl, hga, tgl⟩ := tg.tup_inv
    refine ⟨ga, gxs, rfl, .inr (SqT.of hga), fun p hp => ?_⟩
    have u9 := same_upd (o := .lst gxs) hp
    obtain ⟨ts, rfl, hpr⟩ := pairs_of_sr (tgl.keep (.of u9))
    have hG3 : ∀ x ∈ sortF G, x.1.2.2 < 3 := fun x hx => (dG x ((mem_sortF hG.nd).mp hx)).f
    have ndG := sortF_nodup hG.nd
    refine ⟨p, ts, (sortF G).map encF, rfl, SqL.of upd_same, hpr, F_keys hG3 ndG, fun d hd => ?_⟩
    have u10 := same_upd (o := .dT ((sortF G).map encF)) hd
    have s2x : Same H2 (upd (upd H8 p (.lst (ts.map V.ref))) d (.dT ((sortF G).map encF))) := s27.trans (s8.trans (u9.trans u10))
    have hd10 : (upd (upd H8 p (.lst (ts.map V.ref))) d (.dT ((sortF G).map encF))) d = some (.dT ((sortF G).map encF)) := upd_same
    have hta10 := u10 _ _ (u9 _ _ (s8 _ _ hta))
    have ttl10 := ttl.keep (.of (s8.trans (u9.trans u10)))
    generalize upd (upd H8 p (.lst (ts.map V.ref))) d (.dT ((sortF G).map encF)) = H10 at s2x hd10 hta10 ttl10 ⊢
    have F10 := F2.same s2x
    have tc10 := tc2.keep (.of s2x)
    refine ⟨_, rfl, ta, rfl, ⟨_, SqT.of hta10⟩, ?_⟩
    refine for_tup (K := K) (a := ta) (xs := txs) (fun j σ H => ∃ z13 z14, σ = [some (.ref a), some (.ref f), some vp, some (.ref c), some (.int (0 + (i : Nat))), some (.ref ra), some (.str (encRule R).shown), some (.ref lf), some (.int (mostOf R)), some (.ref o), some (.ref da), some (.ref ta), some (.ref d), z13, z14, y15] ∧ H = H10)
      ⟨y13, y14, rfl, rfl⟩ (fun j σ H _ hP => by obtain ⟨_, _, _, rfl⟩ := hP; exact SqT.of hta10) (fun j x σ H hx hP => ?_) (fun σ H hP => ?_)
    · obtain ⟨z13, z14, rfl, rfl⟩ := hP
      obtain ⟨d0, ed0, tx⟩ := ttl10.get' hx
      rw [List.getElem?_map] at ed0
      obtain ⟨y, ey, rfl⟩ := Option.map_eq_some_iff.mp ed0
      obtain ⟨xa, xb, rfl, hxa, hxb⟩ := sr_inv tx
      have hyF : y ∈ Fs := (mem_sortF hFs.nd).mp (List.mem_of_getElem? ey)
      obtain ⟨r, hr1, hr2⟩ := dominated sm.wf sm.bd hFs hG hyF
      have hlk : look (sortF G) y.1 = some r := mem_look ndG ((mem_sortF hG.nd).mpr hr1)
      have hget : DGet H d (.ref xb) (valV ((sortF G).map encF) (spotK y.1)) := DGet.t (k := spotK y.1) hd10 hxb
      rw [valV_F hG3 (dFs y hyF).f, hlk] at hget
      refine ⟨xa, _, rfl, SqT.of hxa, rfl, _, _, rfl, _, _, rfl, rfl, ?_⟩
      refine ⟨_, rfl, _, rfl, d, _, rfl, hget, false, rfl, ?_⟩
      cases ey2 : y.2 with
      | none => exact ⟨_, rfl, rfl, false, rfl, _, _, rfl, rfl⟩
      | some m0 =>
        obtain ⟨m1, er, hle⟩ := hr2 m0 ey2
        rw [er] at hget
        refine ⟨_, rfl, rfl, true, rfl, _, rfl, _, rfl, d, _, rfl, hget, rfl, false, rfl, _, rfl, _, rfl, d, _, rfl, hget, _, rfl, _, _, rfl, rfl, _, rfl, ite2 (fun e => ?_) (fun e => ?_)⟩
        · have e : m1 < m0 := of_decide_eq_true e
          omega
        · exact ⟨_, _, rfl, rfl⟩
    · obtain ⟨z13, z14, rfl, rfl⟩ := hP
      exact ⟨_, _, _, _, _, _, _, _, _, _, _, _, rfl, F10, tc10⟩
  · obtain ⟨y4, y5, y6, y7, y8, y9, y10, y11, y12, y13, y14, y15, rfl, F1, tc1⟩ := hP
    exact q _
end
end K24
namespace K24
open PySem PySem.Spec PyProof.Rows L2
/-! ### what the top has written -/
theorem dfn_mk {K : PySem.W.Frag} {h : Heap} {mg : Str → Option Value} (X : K.In h) (G : h.Ns mainGlobals mg) {x : Str} {st : Stmt} {f : Addr} {oc kV doc pm cdv ct : Value} {od an : Option Addr} {osl : Array (Option Value)} {ps : List Str}
    (hb : ∀ (kV doc pm : Value) (an : Option Addr) (cdv ct : Value) (us : List Value), us.length = ps.length → bindArgs (PySem.W.fnOf x x (defArgs st) (defBody st) (defScope st) .none kV doc pm an cdv ct) ⟨us, []⟩ = pure (ps.zip us))
    (ha : PySem.W.nsIn K mainGlobals x = some (some (.ref f))) (hl : K.lookup f = some ⟨oc, od, .func (PySem.W.fnOf x x (defArgs st) (defBody st) (defScope st) .none kV doc pm an cdv ct), osl⟩) (hc : PySem.W.codeIn K cdv x = true) (hk : PySem.W.keepIn K (.ref f) = true) :
    Dfn K mg x st f (PySem.W.fnOf x x (defArgs st) (defBody st) (defScope st) .none kV doc pm an cdv ct) ps := ⟨fun_mk (st := st) hl hc hk, PySem.W.mg_of X G ha, (fun_mk (st := st) hl hc hk).binds hb⟩
theorem all_mk {P : Program} {w : World} {K : PySem.W.Frag} {h : Heap} {mg : Str → Option Value} {fa : Addr} (X : K.In h) (G : h.Ns mainGlobals mg) (hfa : mg "law" = some (.ref fa))
    {f0 : Addr} {oc0 kV0 dc0 pm0 cd0 ct0 : Value} {od0 an0 : Option Addr} {sl0 : Array (Option Value)}
    {f1 : Addr} {oc1 kV1 dc1 pm1 cd1 ct1 : Value} {od1 an1 : Option Addr} {sl1 : Array (Option Value)}
    {f2 : Addr} {oc2 kV2 dc2 pm2 cd2 ct2 : Value} {od2 an2 : Option Addr} {sl2 : Array (Option Value)}
    {f3 : Addr} {oc3 kV3 dc3 pm3 cd3 ct3 : Value} {od3 an3 : Option Addr} {sl3 : Array (Option Value)}
    {f4 : Addr} {oc4 kV4 dc4 pm4 cd4 ct4 : Value} {od4 an4 : Option Addr} {sl4 : Array (Option Value)}
    {f5 : Addr} {oc5 kV5 dc5 pm5 cd5 ct5 : Value} {od5 an5 : Option Addr} {sl5 : Array (Option Value)}
    {f6 : Addr} {oc6 kV6 dc6 pm6 cd6 ct6 : Value} {od6 an6 : Option Addr} {sl6 : Array (Option Value)}
    {f7 : Addr} {oc7 kV7 dc7 pm7 cd7 ct7 : Value} {od7 an7 : Option Addr} {sl7 : Array (Option Value)}
    {f8 : Addr} {oc8 kV8 dc8 pm8 cd8 ct8 : Value} {od8 an8 : Option Addr} {sl8 : Array (Option Value)}
    {f9 : Addr} {oc9 kV9 dc9 pm9 cd9 ct9 : Value} {od9 an9 : Option Addr} {sl9 : Array (Option Value)}
    {f10 : Addr} {oc10 kV10 dc10 pm10 cd10 ct10 : Value} {od10 an10 : Option Addr} {sl10 : Array (Option Value)}
    {f11 : Addr} {oc11 kV11 dc11 pm11 cd11 ct11 : Value} {od11 an11 : Option Addr} {sl11 : Array (Option Value)}
    {f12 : Addr} {oc12 kV12 dc12 pm12 cd12 ct12 : Value} {od12 an12 : Option Addr} {sl12 : Array (Option Value)}
    {f13 : Addr} {oc13 kV13 dc13 pm13 cd13 ct13 : Value} {od13 an13 : Option Addr} {sl13 : Array (Option Value)}
    {f14 : Addr} {oc14 kV14 dc14 pm14 cd14 ct14 : Value} {od14 an14 : Option Addr} {sl14 : Array (Option Value)}
    {f15 : Addr} {oc15 kV15 dc15 pm15 cd15 ct15 : Value} {od15 an15 : Option Addr} {sl15 : Array (Option Value)}
    {f16 : Addr} {oc16 kV16 dc16 pm16 cd16 ct16 : Value} {od16 an16 : Option Addr} {sl16 : Array (Option Value)}
    {f17 : Addr} {oc17 kV17 dc17 pm17 cd17 ct17 : Value} {od17 an17 : Option Addr} {sl17 : Array (Option Value)}
    {f18 : Addr} {oc18 kV18 dc18 pm18 cd18 ct18 : Value} {od18 an18 : Option Addr} {sl18 : Array (Option Value)}
    {f19 : Addr} {oc19 kV19 dc19 pm19 cd19 ct19 : Value} {od19 an19 : Option Addr} {sl19 : Array (Option Value)}
    {f20 : Addr} {oc20 kV20 dc20 pm20 cd20 ct20 : Value} {od20 an20 : Option Addr} {sl20 : Array (Option Value)}
    {f21 : Addr} {oc21 kV21 dc21 pm21 cd21 ct21 : Value} {od21 an21 : Option Addr} {sl21 : Array (Option Value)}
    {f22 : Addr} {oc22 kV22 dc22 pm22 cd22 ct22 : Value} {od22 an22 : Option Addr} {sl22 : Array (Option Value)}
    {f23 : Addr} {oc23 kV23 dc23 pm23 cd23 ct23 : Value} {od23 an23 : Option Addr} {sl23 : Array (Option Value)}
    {f24 : Addr} {oc24 kV24 dc24 pm24 cd24 ct24 : Value} {od24 an24 : Option Addr} {sl24 : Array (Option Value)}
    {f25 : Addr} {oc25 kV25 dc25 pm25 cd25 ct25 : Value} {od25 an25 : Option Addr} {sl25 : Array (Option Value)}
    {f26 : Addr} {oc26 kV26 dc26 pm26 cd26 ct26 : Value} {od26 an26 : Option Addr} {sl26 : Array (Option Value)}
    {f27 : Addr} {oc27 kV27 dc27 pm27 cd27 ct27 : Value} {od27 an27 : Option Addr} {sl27 : Array (Option Value)}
    {f28 : Addr} {oc28 kV28 dc28 pm28 cd28 ct28 : Value} {od28 an28 : Option Addr} {sl28 : Array (Option Value)}
    {f29 : Addr} {oc29 kV29 dc29 pm29 cd29 ct29 : Value} {od29 an29 : Option Addr} {sl29 : Array (Option Value)}
    {f30 : Addr} {oc30 kV30 dc30 pm30 cd30 ct30 : Value} {od30 an30 : Option Addr} {sl30 : Array (Option Value)}
    {f31 : Addr} {oc31 kV31 dc31 pm31 cd31 ct31 : Value} {od31 an31 : Option Addr} {sl31 : Array (Option Value)}
    {aC aP nP : Addr} {oC : Obj} {es : Array DictEntry} {u0 u1 u2 : Value}
    (a0 : PySem.W.nsIn K mainGlobals "is_enough" = some (some (.ref f0)))
    (l0 : K.lookup f0 = some ⟨oc0, od0, .func (PySem.W.fnOf "is_enough" "is_enough" (defArgs s_is_enough) (defBody s_is_enough) (defScope s_is_enough) .none kV0 dc0 pm0 an0 cd0 ct0), sl0⟩)
    (c0 : PySem.W.codeIn K cd0 "is_enough" = true)
    (k0 : PySem.W.keepIn K (.ref f0) = true)
    (a1 : PySem.W.nsIn K mainGlobals "mark_room" = some (some (.ref f1)))
    (l1 : K.lookup f1 = some ⟨oc1, od1, .func (PySem.W.fnOf "mark_room" "mark_room" (defArgs s_mark_room) (defBody s_mark_room) (defScope s_mark_room) .none kV1 dc1 pm1 an1 cd1 ct1), sl1⟩)
    (c1 : PySem.W.codeIn K cd1 "mark_room" = true)
    (k1 : PySem.W.keepIn K (.ref f1) = true)
    (a2 : PySem.W.nsIn K mainGlobals "first_room" = some (some (.ref f2)))
    (l2 : K.lookup f2 = some ⟨oc2, od2, .func (PySem.W.fnOf "first_room" "first_room" (defArgs s_first_room) (defBody s_first_room) (defScope s_first_room) .none kV2 dc2 pm2 an2 cd2 ct2), sl2⟩)
    (c2 : PySem.W.codeIn K cd2 "first_room" = true)
    (k2 : PySem.W.keepIn K (.ref f2) = true)
    (a3 : PySem.W.nsIn K mainGlobals "first_spots" = some (some (.ref f3)))
    (l3 : K.lookup f3 = some ⟨oc3, od3, .func (PySem.W.fnOf "first_spots" "first_spots" (defArgs s_first_spots) (defBody s_first_spots) (defScope s_first_spots) .none kV3 dc3 pm3 an3 cd3 ct3), sl3⟩)
    (c3 : PySem.W.codeIn K cd3 "first_spots" = true)
    (k3 : PySem.W.keepIn K (.ref f3) = true)
    (a4 : PySem.W.nsIn K mainGlobals "coming" = some (some (.ref f4)))
    (l4 : K.lookup f4 = some ⟨oc4, od4, .func (PySem.W.fnOf "coming" "coming" (defArgs s_coming) (defBody s_coming) (defScope s_coming) .none kV4 dc4 pm4 an4 cd4 ct4), sl4⟩)
    (c4 : PySem.W.codeIn K cd4 "coming" = true)
    (k4 : PySem.W.keepIn K (.ref f4) = true)
    (a5 : PySem.W.nsIn K mainGlobals "far_goals" = some (some (.ref f5)))
    (l5 : K.lookup f5 = some ⟨oc5, od5, .func (PySem.W.fnOf "far_goals" "far_goals" (defArgs s_far_goals) (defBody s_far_goals) (defScope s_far_goals) .none kV5 dc5 pm5 an5 cd5 ct5), sl5⟩)
    (c5 : PySem.W.codeIn K cd5 "far_goals" = true)
    (k5 : PySem.W.keepIn K (.ref f5) = true)
    (a6 : PySem.W.nsIn K mainGlobals "goals" = some (some (.ref f6)))
    (l6 : K.lookup f6 = some ⟨oc6, od6, .func (PySem.W.fnOf "goals" "goals" (defArgs s_goals) (defBody s_goals) (defScope s_goals) .none kV6 dc6 pm6 an6 cd6 ct6), sl6⟩)
    (c6 : PySem.W.codeIn K cd6 "goals" = true)
    (k6 : PySem.W.keepIn K (.ref f6) = true)
    (a7 : PySem.W.nsIn K mainGlobals "steps_by" = some (some (.ref f7)))
    (l7 : K.lookup f7 = some ⟨oc7, od7, .func (PySem.W.fnOf "steps_by" "steps_by" (defArgs s_steps_by) (defBody s_steps_by) (defScope s_steps_by) .none kV7 dc7 pm7 an7 cd7 ct7), sl7⟩)
    (c7 : PySem.W.codeIn K cd7 "steps_by" = true)
    (k7 : PySem.W.keepIn K (.ref f7) = true)
    (a8 : PySem.W.nsIn K mainGlobals "any_steps" = some (some (.ref f8)))
    (l8 : K.lookup f8 = some ⟨oc8, od8, .func (PySem.W.fnOf "any_steps" "any_steps" (defArgs s_any_steps) (defBody s_any_steps) (defScope s_any_steps) .none kV8 dc8 pm8 an8 cd8 ct8), sl8⟩)
    (c8 : PySem.W.codeIn K cd8 "any_steps" = true)
    (k8 : PySem.W.keepIn K (.ref f8) = true)
    (a9 : PySem.W.nsIn K mainGlobals "move_behind_waits" = some (some (.ref f9)))
    (l9 : K.lookup f9 = some ⟨oc9, od9, .func (PySem.W.fnOf "move_behind_waits" "move_behind_waits" (defArgs s_move_behind_waits) (defBody s_move_behind_waits) (defScope s_move_behind_waits) .none kV9 dc9 pm9 an9 cd9 ct9), sl9⟩)
    (c9 : PySem.W.codeIn K cd9 "move_behind_waits" = true)
    (k9 : PySem.W.keepIn K (.ref f9) = true)
    (a10 : PySem.W.nsIn K mainGlobals "steady_cases" = some (some (.ref f10)))
    (l10 : K.lookup f10 = some ⟨oc10, od10, .func (PySem.W.fnOf "steady_cases" "steady_cases" (defArgs s_steady_cases) (defBody s_steady_cases) (defScope s_steady_cases) .none kV10 dc10 pm10 an10 cd10 ct10), sl10⟩)
    (c10 : PySem.W.codeIn K cd10 "steady_cases" = true)
    (k10 : PySem.W.keepIn K (.ref f10) = true)
    (a11 : PySem.W.nsIn K mainGlobals "steady_steps" = some (some (.ref f11)))
    (l11 : K.lookup f11 = some ⟨oc11, od11, .func (PySem.W.fnOf "steady_steps" "steady_steps" (defArgs s_steady_steps) (defBody s_steady_steps) (defScope s_steady_steps) .none kV11 dc11 pm11 an11 cd11 ct11), sl11⟩)
    (c11 : PySem.W.codeIn K cd11 "steady_steps" = true)
    (k11 : PySem.W.keepIn K (.ref f11) = true)
    (a12 : PySem.W.nsIn K mainGlobals "reached" = some (some (.ref f12)))
    (l12 : K.lookup f12 = some ⟨oc12, od12, .func (PySem.W.fnOf "reached" "reached" (defArgs s_reached) (defBody s_reached) (defScope s_reached) .none kV12 dc12 pm12 an12 cd12 ct12), sl12⟩)
    (c12 : PySem.W.codeIn K cd12 "reached" = true)
    (k12 : PySem.W.keepIn K (.ref f12) = true)
    (a13 : PySem.W.nsIn K mainGlobals "listed" = some (some (.ref f13)))
    (l13 : K.lookup f13 = some ⟨oc13, od13, .func (PySem.W.fnOf "listed" "listed" (defArgs s_listed) (defBody s_listed) (defScope s_listed) .none kV13 dc13 pm13 an13 cd13 ct13), sl13⟩)
    (c13 : PySem.W.codeIn K cd13 "listed" = true)
    (k13 : PySem.W.keepIn K (.ref f13) = true)
    (a14 : PySem.W.nsIn K mainGlobals "spots_of" = some (some (.ref f14)))
    (l14 : K.lookup f14 = some ⟨oc14, od14, .func (PySem.W.fnOf "spots_of" "spots_of" (defArgs s_spots_of) (defBody s_spots_of) (defScope s_spots_of) .none kV14 dc14 pm14 an14 cd14 ct14), sl14⟩)
    (c14 : PySem.W.codeIn K cd14 "spots_of" = true)
    (k14 : PySem.W.keepIn K (.ref f14) = true)
    (a15 : PySem.W.nsIn K mainGlobals "steady_spots" = some (some (.ref f15)))
    (l15 : K.lookup f15 = some ⟨oc15, od15, .func (PySem.W.fnOf "steady_spots" "steady_spots" (defArgs s_steady_spots) (defBody s_steady_spots) (defScope s_steady_spots) .none kV15 dc15 pm15 an15 cd15 ct15), sl15⟩)
    (c15 : PySem.W.codeIn K cd15 "steady_spots" = true)
    (k15 : PySem.W.keepIn K (.ref f15) = true)
    (a16 : PySem.W.nsIn K mainGlobals "_law_feed" = some (some (.ref f16)))
    (l16 : K.lookup f16 = some ⟨oc16, od16, .func (PySem.W.fnOf "_law_feed" "_law_feed" (defArgs s_law_feed) (defBody s_law_feed) (defScope s_law_feed) .none kV16 dc16 pm16 an16 cd16 ct16), sl16⟩)
    (c16 : PySem.W.codeIn K cd16 "_law_feed" = true)
    (k16 : PySem.W.keepIn K (.ref f16) = true)
    (a17 : PySem.W.nsIn K mainGlobals "_law_draw" = some (some (.ref f17)))
    (l17 : K.lookup f17 = some ⟨oc17, od17, .func (PySem.W.fnOf "_law_draw" "_law_draw" (defArgs s_law_draw) (defBody s_law_draw) (defScope s_law_draw) .none kV17 dc17 pm17 an17 cd17 ct17), sl17⟩)
    (c17 : PySem.W.codeIn K cd17 "_law_draw" = true)
    (k17 : PySem.W.keepIn K (.ref f17) = true)
    (a18 : PySem.W.nsIn K mainGlobals "_law_pick" = some (some (.ref f18)))
    (l18 : K.lookup f18 = some ⟨oc18, od18, .func (PySem.W.fnOf "_law_pick" "_law_pick" (defArgs s_law_pick) (defBody s_law_pick) (defScope s_law_pick) .none kV18 dc18 pm18 an18 cd18 ct18), sl18⟩)
    (c18 : PySem.W.codeIn K cd18 "_law_pick" = true)
    (k18 : PySem.W.keepIn K (.ref f18) = true)
    (a19 : PySem.W.nsIn K mainGlobals "_law_tops" = some (some (.ref f19)))
    (l19 : K.lookup f19 = some ⟨oc19, od19, .func (PySem.W.fnOf "_law_tops" "_law_tops" (defArgs s_law_tops) (defBody s_law_tops) (defScope s_law_tops) .none kV19 dc19 pm19 an19 cd19 ct19), sl19⟩)
    (c19 : PySem.W.codeIn K cd19 "_law_tops" = true)
    (k19 : PySem.W.keepIn K (.ref f19) = true)
    (a20 : PySem.W.nsIn K mainGlobals "_law_plan" = some (some (.ref f20)))
    (l20 : K.lookup f20 = some ⟨oc20, od20, .func (PySem.W.fnOf "_law_plan" "_law_plan" (defArgs s_law_plan) (defBody s_law_plan) (defScope s_law_plan) .none kV20 dc20 pm20 an20 cd20 ct20), sl20⟩)
    (c20 : PySem.W.codeIn K cd20 "_law_plan" = true)
    (k20 : PySem.W.keepIn K (.ref f20) = true)
    (a21 : PySem.W.nsIn K mainGlobals "_law_upper" = some (some (.ref f21)))
    (l21 : K.lookup f21 = some ⟨oc21, od21, .func (PySem.W.fnOf "_law_upper" "_law_upper" (defArgs s_law_upper) (defBody s_law_upper) (defScope s_law_upper) .none kV21 dc21 pm21 an21 cd21 ct21), sl21⟩)
    (c21 : PySem.W.codeIn K cd21 "_law_upper" = true)
    (k21 : PySem.W.keepIn K (.ref f21) = true)
    (a22 : PySem.W.nsIn K mainGlobals "_law_case" = some (some (.ref f22)))
    (l22 : K.lookup f22 = some ⟨oc22, od22, .func (PySem.W.fnOf "_law_case" "_law_case" (defArgs s_law_case) (defBody s_law_case) (defScope s_law_case) .none kV22 dc22 pm22 an22 cd22 ct22), sl22⟩)
    (c22 : PySem.W.codeIn K cd22 "_law_case" = true)
    (k22 : PySem.W.keepIn K (.ref f22) = true)
    (a23 : PySem.W.nsIn K mainGlobals "_law_end" = some (some (.ref f23)))
    (l23 : K.lookup f23 = some ⟨oc23, od23, .func (PySem.W.fnOf "_law_end" "_law_end" (defArgs s_law_end) (defBody s_law_end) (defScope s_law_end) .none kV23 dc23 pm23 an23 cd23 ct23), sl23⟩)
    (c23 : PySem.W.codeIn K cd23 "_law_end" = true)
    (k23 : PySem.W.keepIn K (.ref f23) = true)
    (a24 : PySem.W.nsIn K mainGlobals "_law_moved" = some (some (.ref f24)))
    (l24 : K.lookup f24 = some ⟨oc24, od24, .func (PySem.W.fnOf "_law_moved" "_law_moved" (defArgs s_law_moved) (defBody s_law_moved) (defScope s_law_moved) .none kV24 dc24 pm24 an24 cd24 ct24), sl24⟩)
    (c24 : PySem.W.codeIn K cd24 "_law_moved" = true)
    (k24 : PySem.W.keepIn K (.ref f24) = true)
    (a25 : PySem.W.nsIn K mainGlobals "_law_reached" = some (some (.ref f25)))
    (l25 : K.lookup f25 = some ⟨oc25, od25, .func (PySem.W.fnOf "_law_reached" "_law_reached" (defArgs s_law_reached) (defBody s_law_reached) (defScope s_law_reached) .none kV25 dc25 pm25 an25 cd25 ct25), sl25⟩)
    (c25 : PySem.W.codeIn K cd25 "_law_reached" = true)
    (k25 : PySem.W.keepIn K (.ref f25) = true)
    (a26 : PySem.W.nsIn K mainGlobals "_law_window" = some (some (.ref f26)))
    (l26 : K.lookup f26 = some ⟨oc26, od26, .func (PySem.W.fnOf "_law_window" "_law_window" (defArgs s_law_window) (defBody s_law_window) (defScope s_law_window) .none kV26 dc26 pm26 an26 cd26 ct26), sl26⟩)
    (c26 : PySem.W.codeIn K cd26 "_law_window" = true)
    (k26 : PySem.W.keepIn K (.ref f26) = true)
    (a27 : PySem.W.nsIn K mainGlobals "_law_floor" = some (some (.ref f27)))
    (l27 : K.lookup f27 = some ⟨oc27, od27, .func (PySem.W.fnOf "_law_floor" "_law_floor" (defArgs s_law_floor) (defBody s_law_floor) (defScope s_law_floor) .none kV27 dc27 pm27 an27 cd27 ct27), sl27⟩)
    (c27 : PySem.W.codeIn K cd27 "_law_floor" = true)
    (k27 : PySem.W.keepIn K (.ref f27) = true)
    (a28 : PySem.W.nsIn K mainGlobals "_law_spots" = some (some (.ref f28)))
    (l28 : K.lookup f28 = some ⟨oc28, od28, .func (PySem.W.fnOf "_law_spots" "_law_spots" (defArgs s_law_spots) (defBody s_law_spots) (defScope s_law_spots) .none kV28 dc28 pm28 an28 cd28 ct28), sl28⟩)
    (c28 : PySem.W.codeIn K cd28 "_law_spots" = true)
    (k28 : PySem.W.keepIn K (.ref f28) = true)
    (a29 : PySem.W.nsIn K mainGlobals "_law_small" = some (some (.ref f29)))
    (l29 : K.lookup f29 = some ⟨oc29, od29, .func (PySem.W.fnOf "_law_small" "_law_small" (defArgs s_law_small) (defBody s_law_small) (defScope s_law_small) .none kV29 dc29 pm29 an29 cd29 ct29), sl29⟩)
    (c29 : PySem.W.codeIn K cd29 "_law_small" = true)
    (k29 : PySem.W.keepIn K (.ref f29) = true)
    (a30 : PySem.W.nsIn K mainGlobals "_law_chain" = some (some (.ref f30)))
    (l30 : K.lookup f30 = some ⟨oc30, od30, .func (PySem.W.fnOf "_law_chain" "_law_chain" (defArgs s_law_chain) (defBody s_law_chain) (defScope s_law_chain) .none kV30 dc30 pm30 an30 cd30 ct30), sl30⟩)
    (c30 : PySem.W.codeIn K cd30 "_law_chain" = true)
    (k30 : PySem.W.keepIn K (.ref f30) = true)
    (a31 : PySem.W.nsIn K mainGlobals "law" = some (some (.ref f31)))
    (l31 : K.lookup f31 = some ⟨oc31, od31, .func (PySem.W.fnOf "law" "law" (defArgs s_law) (defBody s_law) (defScope s_law) .none kV31 dc31 pm31 an31 cd31 ct31), sl31⟩)
    (c31 : PySem.W.codeIn K cd31 "law" = true)
    (k31 : PySem.W.keepIn K (.ref f31) = true)
    (z0 : PySem.W.nsIn K mainGlobals "len" = some none)
    (z1 : PySem.W.nsIn K mainGlobals "range" = some none)
    (z2 : PySem.W.nsIn K mainGlobals "tuple" = some none)
    (z3 : PySem.W.nsIn K mainGlobals "dict" = some none)
    (z4 : PySem.W.nsIn K mainGlobals "list" = some none)
    (z5 : PySem.W.nsIn K mainGlobals "sorted" = some none)
    (z6 : PySem.W.nsIn K mainGlobals "int" = some none)
    (z7 : PySem.W.nsIn K mainGlobals "max" = some none)
    (z8 : PySem.W.nsIn K mainGlobals "repr" = some none)
    (y0 : PySem.W.nsIn K mainGlobals "CASES" = some (some (.ref aC)))
    (y1 : K.lookup aC = some oC)
    (y2 : PySem.W.nsIn K mainGlobals "CASE_PLACES" = some (some (.ref aP)))
    (y3 : K.lookup aP = some ⟨.type "dict", none, .dict es nP, #[]⟩)
    (y4 : PySem.W.nsIn K aP "near" = some (some u0))
    (y5 : PySem.W.nsIn K aP "at" = some (some u1))
    (y6 : PySem.W.nsIn K aP "far" = some (some u2))
    (y7 : oC.cls = .type "tuple" ∧ ∃ its nC, oC.data = .seq its nC ∧ its.size ≤ sizeLine ∧ Vals [.str "near", .str "at", .str "far"] its.toList)
    (y8 : PySem.W.KeysLit w.params es.toList)
    (y9 : RelV (.int 0) u0 ∧ RelV (.int 1) u1 ∧ RelV (.int 2) u2) :
    ∃ fd : FuncData, (∀ (s : Shared) (v : Value), BindsTo s fd ⟨[v], []⟩ [("_law_script", v)]) ∧ ∀ base : Heap, K.In base → base.Ns mainGlobals mg → LawFn P w K mg base 7 fa fd "_law_script" (sp_law K) := by
  have e := hfa.symm.trans (PySem.W.mg_of X G a31)
  cases e
  have D0 := dfn_mk (ps := ["room", "wanted"]) (st := s_is_enough) X G (fun _ _ _ _ _ _ us hl => match us, hl with | [_, _], _ => rfl) a0 l0 c0 k0
  have D1 := dfn_mk (ps := ["marks", "gap"]) (st := s_mark_room) X G (fun _ _ _ _ _ _ us hl => match us, hl with | [_, _], _ => rfl) a1 l1 c1 k1
  have D2 := dfn_mk (ps := ["marks", "gap"]) (st := s_first_room) X G (fun _ _ _ _ _ _ us hl => match us, hl with | [_, _], _ => rfl) a2 l2 c2 k2
  have D3 := dfn_mk (ps := ["marks"]) (st := s_first_spots) X G (fun _ _ _ _ _ _ us hl => match us, hl with | [_], _ => rfl) a3 l3 c3 k3
  have D4 := dfn_mk (ps := ["marks", "spot", "room"]) (st := s_coming) X G (fun _ _ _ _ _ _ us hl => match us, hl with | [_, _, _], _ => rfl) a4 l4 c4 k4
  have D5 := dfn_mk (ps := ["marks", "gap"]) (st := s_far_goals) X G (fun _ _ _ _ _ _ us hl => match us, hl with | [_, _], _ => rfl) a5 l5 c5 k5
  have D6 := dfn_mk (ps := ["marks", "gap", "room", "i", "move"]) (st := s_goals) X G (fun _ _ _ _ _ _ us hl => match us, hl with | [_, _, _, _, _], _ => rfl) a6 l6 c6 k6
  have D7 := dfn_mk (ps := ["rule", "spot", "room", "i"]) (st := s_steps_by) X G (fun _ _ _ _ _ _ us hl => match us, hl with | [_, _, _, _], _ => rfl) a7 l7 c7 k7
  have D8 := dfn_mk (ps := ["rule", "spot", "room"]) (st := s_any_steps) X G (fun _ _ _ _ _ _ us hl => match us, hl with | [_, _, _], _ => rfl) a8 l8 c8 k8
  have D9 := dfn_mk (ps := ["rule", "phase", "i"]) (st := s_move_behind_waits) X G (fun _ _ _ _ _ _ us hl => match us, hl with | [_, _, _], _ => rfl) a9 l9 c9 k9
  have D10 := dfn_mk (ps := ["marks", "spot", "room"]) (st := s_steady_cases) X G (fun _ _ _ _ _ _ us hl => match us, hl with | [_, _, _], _ => rfl) a10 l10 c10 k10
  have D11 := dfn_mk (ps := ["rule", "spot", "room"]) (st := s_steady_steps) X G (fun _ _ _ _ _ _ us hl => match us, hl with | [_, _, _], _ => rfl) a11 l11 c11 k11
  have D12 := dfn_mk (ps := ["rule", "starts", "steps"]) (st := s_reached) X G (fun _ _ _ _ _ _ us hl => match us, hl with | [_, _, _], _ => rfl) a12 l12 c12 k12
  have D13 := dfn_mk (ps := ["found"]) (st := s_listed) X G (fun _ _ _ _ _ _ us hl => match us, hl with | [_], _ => rfl) a13 l13 c13 k13
  have D14 := dfn_mk (ps := ["rule"]) (st := s_spots_of) X G (fun _ _ _ _ _ _ us hl => match us, hl with | [_], _ => rfl) a14 l14 c14 k14
  have D15 := dfn_mk (ps := ["rule"]) (st := s_steady_spots) X G (fun _ _ _ _ _ _ us hl => match us, hl with | [_], _ => rfl) a15 l15 c15 k15
  have D16 := dfn_mk (ps := ["_law_script"]) (st := s_law_feed) X G (fun _ _ _ _ _ _ us hl => match us, hl with | [_], _ => rfl) a16 l16 c16 k16
  have D17 := dfn_mk (ps := ["_law_feed_here", "_law_size"]) (st := s_law_draw) X G (fun _ _ _ _ _ _ us hl => match us, hl with | [_, _], _ => rfl) a17 l17 c17 k17
  have D18 := dfn_mk (ps := ["_law_feed_here", "_law_some"]) (st := s_law_pick) X G (fun _ _ _ _ _ _ us hl => match us, hl with | [_, _], _ => rfl) a18 l18 c18 k18
  have D19 := dfn_mk (ps := ["_law_feed_here", "_law_most", "_law_wide"]) (st := s_law_tops) X G (fun _ _ _ _ _ _ us hl => match us, hl with | [_, _, _], _ => rfl) a19 l19 c19 k19
  have D20 := dfn_mk (ps := ["_law_feed_here", "_law_most", "_law_wide", "_law_size"]) (st := s_law_plan) X G (fun _ _ _ _ _ _ us hl => match us, hl with | [_, _, _, _], _ => rfl) a20 l20 c20 k20
  have D21 := dfn_mk (ps := ["_law_tops_here", "_law_at"]) (st := s_law_upper) X G (fun _ _ _ _ _ _ us hl => match us, hl with | [_, _], _ => rfl) a21 l21 c21 k21
  have D22 := dfn_mk (ps := ["_law_tops_here", "_law_at", "_law_late"]) (st := s_law_case) X G (fun _ _ _ _ _ _ us hl => match us, hl with | [_, _, _], _ => rfl) a22 l22 c22 k22
  have D23 := dfn_mk (ps := ["_law_tops_here", "_law_move", "_law_at", "_law_late"]) (st := s_law_end) X G (fun _ _ _ _ _ _ us hl => match us, hl with | [_, _, _, _], _ => rfl) a23 l23 c23 k23
  have D24 := dfn_mk (ps := ["_law_plan_here", "_law_stand", "_law_late"]) (st := s_law_moved) X G (fun _ _ _ _ _ _ us hl => match us, hl with | [_, _, _], _ => rfl) a24 l24 c24 k24
  have D25 := dfn_mk (ps := ["_law_plan_here", "_law_firsts", "_law_most", "_law_is_steady"]) (st := s_law_reached) X G (fun _ _ _ _ _ _ us hl => match us, hl with | [_, _, _, _], _ => rfl) a25 l25 c25 k25
  have D26 := dfn_mk (ps := ["_law_plan_here"]) (st := s_law_window) X G (fun _ _ _ _ _ _ us hl => match us, hl with | [_], _ => rfl) a26 l26 c26 k26
  have D27 := dfn_mk (ps := ["_law_plan_here", "_law_stand"]) (st := s_law_floor) X G (fun _ _ _ _ _ _ us hl => match us, hl with | [_, _], _ => rfl) a27 l27 c27 k27
  have D28 := dfn_mk (ps := ["_law_plan_here", "_law_stands"]) (st := s_law_spots) X G (fun _ _ _ _ _ _ us hl => match us, hl with | [_, _], _ => rfl) a28 l28 c28 k28
  have D29 := dfn_mk (ps := ["_law_feed_here"]) (st := s_law_small) X G (fun _ _ _ _ _ _ us hl => match us, hl with | [_], _ => rfl) a29 l29 c29 k29
  have D30 := dfn_mk (ps := ["_law_many", "_law_k", "_law_move", "_law_last"]) (st := s_law_chain) X G (fun _ _ _ _ _ _ us hl => match us, hl with | [_, _, _, _], _ => rfl) a30 l30 c30 k30
  have D31 := dfn_mk (ps := ["_law_script"]) (st := s_law) X G (fun _ _ _ _ _ _ us hl => match us, hl with | [_], _ => rfl) a31 l31 c31 k31
  obtain ⟨q1, its, nC, q2, q3, q4⟩ := y7
  have T : Txt K w mg aC aP f8 f11 := ⟨PySem.W.mg_none_of X G z0, PySem.W.mg_none_of X G z1, PySem.W.mg_none_of X G z2, PySem.W.mg_none_of X G z3, PySem.W.mg_none_of X G z4, PySem.W.mg_none_of X G z5, PySem.W.mg_none_of X G z6, PySem.W.mg_none_of X G z7, PySem.W.mg_none_of X G z8, PySem.W.mg_of X G y0, PySem.W.mg_of X G y2, D8.mgf, D11.mgf, fun H => .inr ⟨oC, its, nC, y1, q1, q2, q3, q4⟩, ⟨_, _, _, y3, y8, y4, y9.1⟩, ⟨_, _, _, y3, y8, y5, y9.2.1⟩, ⟨_, _, _, y3, y8, y6, y9.2.2⟩⟩
  refine ⟨PySem.W.fnOf "law" "law" (defArgs s_law) (defBody s_law) (defScope s_law) .none kV31 dc31 pm31 an31 cd31 ct31, fun s v => .of_eq rfl, fun base _ _ => ?_⟩
  have F_is_enough := ok_is_enough (P := P) (w := w) (base := base) D0
  have c_is_enough := cal_of D0 F_is_enough
  have F_mark_room := ok_mark_room (P := P) (w := w) (base := base) T D1
  have c_mark_room := cal_of D1 F_mark_room
  have F_first_room := ok_first_room (P := P) (w := w) (base := base) c_mark_room D2
  have c_first_room := cal_of D2 F_first_room
  have F_first_spots := ok_first_spots (P := P) (w := w) (base := base) T c_first_room D3
  have c_first_spots := cal_of D3 F_first_spots
  have F_coming := ok_coming (P := P) (w := w) (base := base) T c_is_enough D4
  have c_coming := cal_of D4 F_coming
  have F_far_goals := ok_far_goals (P := P) (w := w) (base := base) T c_mark_room D5
  have c_far_goals := cal_of D5 F_far_goals
  have F_goals := ok_goals (P := P) (w := w) (base := base) T c_mark_room c_far_goals D6
  have c_goals := cal_of D6 F_goals
  have F_steps_by := ok_steps_by (P := P) (w := w) (base := base) T c_goals D7
  have c_steps_by := cal_of D7 F_steps_by
  have F_any_steps := ok_any_steps (P := P) (w := w) (base := base) T c_coming c_steps_by D8
  have c_any_steps := cal_of D8 F_any_steps
  have F_move_behind_waits := ok_move_behind_waits (P := P) (w := w) (base := base) T D9
  have c_move_behind_waits := cal_of D9 F_move_behind_waits
  have F_steady_cases := ok_steady_cases (P := P) (w := w) (base := base) T c_coming D10
  have c_steady_cases := cal_of D10 F_steady_cases
  have F_steady_steps := ok_steady_steps (P := P) (w := w) (base := base) T c_steady_cases c_goals c_move_behind_waits D11
  have c_steady_steps := cal_of D11 F_steady_steps
  have F_reachedA := ok_reached (fN := f8) (P := P) (w := w) (base := base) T c_is_enough F_any_steps D8.fn.kp D8.bd D12
  have c_reachedA := cal_of D12 F_reachedA
  have F_reachedS := ok_reached (fN := f11) (P := P) (w := w) (base := base) T c_is_enough F_steady_steps D11.fn.kp D11.bd D12
  have c_reachedS := cal_of D12 F_reachedS
  have F_listed := ok_listed (P := P) (w := w) (base := base) T D13
  have c_listed := cal_of D13 F_listed
  have F_spots_of := ok_spots_of (P := P) (w := w) (base := base) T c_first_spots c_reachedA c_listed D14
  have c_spots_of := cal_of D14 F_spots_of
  have F_steady_spots := ok_steady_spots (P := P) (w := w) (base := base) T c_first_spots c_reachedS c_listed D15
  have c_steady_spots := cal_of D15 F_steady_spots
  have F_law_feed := ok_law_feed (P := P) (w := w) (base := base) T D16
  have c_law_feed := cal_of D16 F_law_feed
  have F_law_draw := ok_law_draw (P := P) (w := w) (base := base) T D17
  have c_law_draw := cal_of D17 F_law_draw
  have F_law_pick := ok_law_pick (P := P) (w := w) (base := base) T c_law_draw D18
  have c_law_pick := cal_of D18 F_law_pick
  have F_law_tops := ok_law_tops (P := P) (w := w) (base := base) T c_law_draw D19
  have c_law_tops := cal_of D19 F_law_tops
  have F_law_plan := ok_law_plan (P := P) (w := w) (base := base) T c_law_draw c_law_pick c_law_tops D20
  have c_law_plan := cal_of D20 F_law_plan
  have F_law_chain := ok_law_chain (P := P) (w := w) (base := base) T D30
  have c_law_chain := cal_of D30 F_law_chain
  have F_law_small := ok_law_small (P := P) (w := w) (base := base) T c_law_draw c_law_pick c_law_plan D29
  have c_law_small := cal_of D29 F_law_small
  have F_law_upper := ok_law_upper (P := P) (w := w) (base := base) T D21
  have c_law_upper := cal_of D21 F_law_upper
  have F_law_case := ok_law_case (P := P) (w := w) (base := base) T c_law_upper D22
  have c_law_case := cal_of D22 F_law_case
  have F_law_end := ok_law_end (P := P) (w := w) (base := base) T D23
  have c_law_end := cal_of D23 F_law_end
  have F_law_moved := ok_law_moved (P := P) (w := w) (base := base) T c_law_case c_law_end D24
  have c_law_moved := cal_of D24 F_law_moved
  have F_law_reached := ok_law_reached (P := P) (w := w) (base := base) T c_law_moved D25
  have c_law_reached := cal_of D25 F_law_reached
  have F_law_window := ok_law_window (P := P) (w := w) (base := base) T D26
  have c_law_window := cal_of D26 F_law_window
  have F_law_floor := ok_law_floor (P := P) (w := w) (base := base) T c_law_case D27
  have c_law_floor := cal_of D27 F_law_floor
  have F_law_spots := ok_law_spots (P := P) (w := w) (base := base) T c_law_floor D28
  have c_law_spots := cal_of D28 F_law_spots
  exact ok_law (P := P) (w := w) (base := base) T c_law_feed c_law_draw c_law_pick c_law_small c_law_chain c_law_window c_law_reached c_law_spots c_steady_spots c_spots_of D31 ⟨rfl, by decide, by decide⟩
end K24
namespace K24
open PySem PySem.Spec PyProof.Rows L2
/-! ### the law is called: its def's promise holds around the caller alone -/
section
variable {P : Program} {w : World} {K : PySem.W.Frag} {mg mb : Str → Option Value} {k : Nat} {fa p : Addr} {fd : FuncData} {x : Str} {sp : Sp} {t : Shared} {us : List Value} {zs : List Int}
/-- the script as an object -/
abbrev scr (us : List Value) : Obj := { cls := .type "list", data := .seq us.toArray }
/-- an abstract heap under which the law may run: it tells of the script alone -/
structure Start (P : Program) (w : World) (K : PySem.W.Frag) (t : Shared) (p : Addr) (zs : List Int) (H : Hp) : Prop where
  only : Only H
  seq : SqL K H p (zs.map V.int)
  ok : HOk P w H t.heap
  at_ : ∀ c, c ≠ p → H c = none
  own : H p = none ∨ K.lookup p = none
theorem start_run (X : K.In t.heap) (n1 : t.heap.Ns mainGlobals mg) (n2 : t.heap.Ns builtinsNs mb) (n3 : ∀ y : Str, y ≠ "__name__" → mb y = bootBuiltins y) (n4 : t.heap.NoLimit) (g0 : t.gens = #[]) (hp : t.heap.get? p = some (scr us))
    (G : ∀ b : Heap, K.In b → b.Ns mainGlobals mg → LawFn P w K mg b k fa fd x sp) (hb : ∀ (s : Shared) (u : Value), BindsTo s fd ⟨[u], []⟩ [(x, u)]) {H : Hp} (S : Start P w K t p zs H) (hs : sp [.ref p] H (fun v _ => v = .bl true) L2.E0) :
    codeAny (model P w) callerA (.call (.ref fa) ⟨[.ref p], []⟩) (fun r s' => r = .ok (.ret (.bool true)) ∧ OldK t.heap s'.heap ∧ s'.os = t.os ∧ AllBare s'.gens) t := by
  have free : ∀ {c : Addr} {o : Obj} {es : Array DictEntry} {n : Nat}, t.heap.get? c = some o → o.data = .dict es n → H c = none := by
    intro c o es n h1 h2
    by_cases hc : c = p
    · rw [hc, hp] at h1
      cases h1
      exact nomatch h2
    · exact S.at_ c hc
  have names : ∀ {c : Addr} {m : Str → Option Value}, t.heap.Ns c m → (hidT t.heap H).Ns c m := by
    rintro c m ⟨o, es, n, h1, h2, h3⟩
    exact ⟨o, es, n, hidT_get h1 (free h1 h2), h2, h3⟩
  have kept : K.In (hidT t.heap H) := by
    intro c o h1
    refine hidT_get (X c o h1) ?_
    by_cases hc : c = p
    · rcases S.own with h2 | h2
      · rw [hc]; exact h2
      · rw [hc, h2] at h1; exact nomatch h1
    · exact S.at_ c hc
  obtain ⟨mc, l1, l2⟩ := n4
  have env : Env0 P w K mg (hidT t.heap H) callerA [] t H := by
    refine ⟨rfl, ⟨kept, names n1, ⟨mb, names n2, n3⟩, mc, names l1, l2⟩, fun c o h1 => of_hidT h1, Nat.le_of_eq (hidT_size t.heap H), trivial, fun c hc => (nomatch hc), S.ok, .of_eq g0⟩
  refine codeAny_mono ((G _ kept (names n1)).run t H (.ref p) p _ env (hb t (.ref p)) rfl hs) fun r s' hr => ?_
  rcases r with e | fl
  · exact hr.elim
  rcases fl with _ | _ | _ | u
  all_goals first
    | exact hr.elim
    | skip
  obtain ⟨v, H', h1, h2, h3, h4, h5, h6⟩ := hr
  have h6 : v = .bl true := h6
  rw [h6] at h5
  have h5 : u = Value.bool true := h5
  rw [h5]
  refine ⟨rfl, OldK.of_keep fun c o hc => ?_, h1, h2⟩
  rcases S.only c with hn | ⟨ob, xs, hf⟩
  · exact h3.keep c o hc hn (fun z => (nomatch z)) (fun z => (nomatch z))
  · have f1 := (S.ok c _ hf).1
    have f2 := (h4 c _ (h3.frzs c ob _ hf)).1
    rw [hc] at f1
    cases f1
    exact f2
theorem tail_call (X : K.In t.heap) (n1 : t.heap.Ns mainGlobals mg) (n2 : t.heap.Ns builtinsNs mb) (n3 : ∀ y : Str, y ≠ "__name__" → mb y = bootBuiltins y) (n4 : t.heap.NoLimit) (g0 : t.gens = #[]) (hp : t.heap.get? p = some (scr us)) (hz : IntsAre us zs) (hl : zs.length ≤ sizeLine)
    (G : ∀ b : Heap, K.In b → b.Ns mainGlobals mg → LawFn P w K mg b k fa fd x sp) (hb : ∀ (s : Shared) (u : Value), BindsTo s fd ⟨[u], []⟩ [(x, u)])
    (hs : ∀ H : Hp, Only H → SqL K H p (zs.map V.int) → sp [.ref p] H (fun v _ => v = .bl true) L2.E0) :
    codeAny (model P w) callerA (.call (.ref fa) ⟨[.ref p], []⟩) (fun r s' => r = .ok (.ret (.bool true)) ∧ OldK t.heap s'.heap ∧ s'.os = t.os ∧ AllBare s'.gens) t := by
  have vs := vals_ints hz
  have go : ∀ H : Hp, Start P w K t p zs H → _ := fun H S => start_run X n1 n2 n3 n4 g0 hp G hb S (hs H S.only S.seq)
  cases hk : K.lookup p with
  | some o =>
    have eo := (X p o hk).symm.trans hp
    cases eo
    refine go (fun _ => none) ⟨fun _ => .inl rfl, .inr ⟨_, us.toArray, _, hk, rfl, rfl, rfl, ?_, by simpa using vs⟩, fun c u hu => (nomatch hu), fun _ _ => rfl, .inl rfl⟩
    rw [List.size_toArray, hz.length]
    exact hl
  | none =>
    have self : (fun c => if c = p then some (HO.frz (scr us) (.lst (zs.map V.int))) else none : Hp) p = some (.frz (scr us) (.lst (zs.map V.int))) := if_pos rfl
    have others : ∀ c, c ≠ p → (fun c => if c = p then some (HO.frz (scr us) (.lst (zs.map V.int))) else none : Hp) c = none := fun c hc => if_neg hc
    refine go _ ⟨fun c => ?_, .inl (.inr ⟨scr us, self⟩), fun c u hu => ?_, others, .inr hk⟩
    · rcases Classical.em (c = p) with hc | hc
      · rw [hc]; exact .inr ⟨_, _, self⟩
      · exact .inl (others c hc)
    · rcases Classical.em (c = p) with hc | hc
      · subst hc
        have hu := self.symm.trans hu
        cases hu
        exact ⟨hp, by rw [List.length_map]; exact hl, us, _, vs, hp⟩
      · have hu := (others c hc).symm.trans hu
        cases hu
end
theorem tail_walk {l : PySem.W.OpenLaw} {n k : Nat} {q : Program} {loose : List Str} {XP : (Str → Option Value) → Heap → Prop} {YP : World → Heap → Prop} {d : DefRec} {K : Params → PySem.W.Frag} {sp : PySem.W.Frag → Sp} {x : Str} (hn : l.most = some n) (hn2 : n ≤ sizeLine) (hdf : d.params.defaults = []) (hY : ∀ (w : World) (h : Heap), YP w h → (K w.params).In h)
    (F : ∀ (w : World) (mg : Str → Option Value) (fa : Addr) (h : Heap), (K w.params).In h → h.Ns mainGlobals mg → mg d.name = some (.ref fa) → ∃ fd : FuncData, (∀ (s : Shared) (u : Value), BindsTo s fd ⟨[u], []⟩ [(x, u)]) ∧
      ∀ b : Heap, (K w.params).In b → b.Ns mainGlobals mg → LawFn l.prog w (K w.params) mg b k fa fd x (sp (K w.params)))
    (hs : ∀ (w : World) (H : Hp) (p : Addr) (zs : List Int), zs.length ≤ n → Only H → SqL (K w.params) H p (zs.map V.int) → sp (K w.params) [.ref p] H (fun v _ => v = .bl true) L2.E0) : PySem.W.WalkO q loose XP YP l.row.toRowW d [] (fun f vs => PySem.call f vs) := by
  refine Att.attach_call hn hdf fun w s₀ t mg mb fa o pm cd doc p us zs G Y _ _ _ hmg hobj hints hlen hg => ?_
  have X := hY w _ Y
  obtain ⟨fd, hb, hF⟩ := F w mg fa _ X G.T.g hmg
  exact tail_call X G.T.g G.T.b G.T.builtins G.T.nolimit hg hobj hints (Nat.le_trans hlen hn2) hF hb fun H => hs w H p zs hlen
end K24
open PySem PySem.W PyProof.Rows
set_option maxHeartbeats 0 in
theorem PySem.Challenge.cw_endclimbs_k24_whole_steady_spots_by_rows_holds : PySem.Challenge.rw_endclimbs_k24_whole_steady_spots_by_rows.Holds := by
  w_on; o_law; k_head; (case hw => w_witness2)
  k_fill
  refine K24.tail_walk (l := PySem.Challenge.rw_endclimbs_k24_whole_steady_spots_by_rows) (n := 63) (k := 7) (x := "_law_script") (sp := K24.sp_law) rfl (by decide) rfl (fun w h Y => PySem.W.kIn_of Y) ?F (fun _ _ a ns hl _ hS => ⟨a, ns, rfl, hS, hl, fun _ => rfl⟩)
  case F =>
    intro w mg fa h KX G hmg
    refine' K24.all_mk KX G hmg ?a0 ?l0 ?c0 ?k0 ?a1 ?l1 ?c1 ?k1 ?a2 ?l2 ?c2 ?k2 ?a3 ?l3 ?c3 ?k3 ?a4 ?l4 ?c4 ?k4 ?a5 ?l5 ?c5 ?k5 ?a6 ?l6 ?c6 ?k6 ?a7 ?l7 ?c7 ?k7 ?a8 ?l8 ?c8 ?k8 ?a9 ?l9 ?c9 ?k9 ?a10 ?l10 ?c10 ?k10 ?a11 ?l11 ?c11 ?k11 ?a12 ?l12 ?c12 ?k12 ?a13 ?l13 ?c13 ?k13 ?a14 ?l14 ?c14 ?k14 ?a15 ?l15 ?c15 ?k15 ?a16 ?l16 ?c16 ?k16 ?a17 ?l17 ?c17 ?k17 ?a18 ?l18 ?c18 ?k18 ?a19 ?l19 ?c19 ?k19 ?a20 ?l20 ?c20 ?k20 ?a21 ?l21 ?c21 ?k21 ?a22 ?l22 ?c22 ?k22 ?a23 ?l23 ?c23 ?k23 ?a24 ?l24 ?c24 ?k24 ?a25 ?l25 ?c25 ?k25 ?a26 ?l26 ?c26 ?k26 ?a27 ?l27 ?c27 ?k27 ?a28 ?l28 ?c28 ?k28 ?a29 ?l29 ?c29 ?k29 ?a30 ?l30 ?c30 ?k30 ?a31 ?l31 ?c31 ?k31 ?z0 ?z1 ?z2 ?z3 ?z4 ?z5 ?z6 ?z7 ?z8 ?y0 ?y1 ?y2 ?y3 ?y4 ?y5 ?y6 ?y7 ?y8 ?y9
    (case a0 => k_is)
    (case l0 => k_is)
    (case c0 => k_is)
    (case k0 => k_is)
    (case a1 => k_is)
    (case l1 => k_is)
    (case c1 => k_is)
    (case k1 => k_is)
    (case a2 => k_is)
    (case l2 => k_is)
    (case c2 => k_is)
    (case k2 => k_is)
    (case a3 => k_is)
    (case l3 => k_is)
    (case c3 => k_is)
    (case k3 => k_is)
    (case a4 => k_is)
    (case l4 => k_is)
    (case c4 => k_is)
    (case k4 => k_is)
    (case a5 => k_is)
    (case l5 => k_is)
    (case c5 => k_is)
    (case k5 => k_is)
    (case a6 => k_is)
    (case l6 => k_is)
    (case c6 => k_is)
    (case k6 => k_is)
    (case a7 => k_is)
    (case l7 => k_is)
    (case c7 => k_is)
    (case k7 => k_is)
    (case a8 => k_is)
    (case l8 => k_is)
    (case c8 => k_is)
    (case k8 => k_is)
    (case a9 => k_is)
    (case l9 => k_is)
    (case c9 => k_is)
    (case k9 => k_is)
    (case a10 => k_is)
    (case l10 => k_is)
    (case c10 => k_is)
    (case k10 => k_is)
    (case a11 => k_is)
    (case l11 => k_is)
    (case c11 => k_is)
    (case k11 => k_is)
    (case a12 => k_is)
    (case l12 => k_is)
    (case c12 => k_is)
    (case k12 => k_is)
    (case a13 => k_is)
    (case l13 => k_is)
    (case c13 => k_is)
    (case k13 => k_is)
    (case a14 => k_is)
    (case l14 => k_is)
    (case c14 => k_is)
    (case k14 => k_is)
    (case a15 => k_is)
    (case l15 => k_is)
    (case c15 => k_is)
    (case k15 => k_is)
    (case a16 => k_is)
    (case l16 => k_is)
    (case c16 => k_is)
    (case k16 => k_is)
    (case a17 => k_is)
    (case l17 => k_is)
    (case c17 => k_is)
    (case k17 => k_is)
    (case a18 => k_is)
    (case l18 => k_is)
    (case c18 => k_is)
    (case k18 => k_is)
    (case a19 => k_is)
    (case l19 => k_is)
    (case c19 => k_is)
    (case k19 => k_is)
    (case a20 => k_is)
    (case l20 => k_is)
    (case c20 => k_is)
    (case k20 => k_is)
    (case a21 => k_is)
    (case l21 => k_is)
    (case c21 => k_is)
    (case k21 => k_is)
    (case a22 => k_is)
    (case l22 => k_is)
    (case c22 => k_is)
    (case k22 => k_is)
    (case a23 => k_is)
    (case l23 => k_is)
    (case c23 => k_is)
    (case k23 => k_is)
    (case a24 => k_is)
    (case l24 => k_is)
    (case c24 => k_is)
    (case k24 => k_is)
    (case a25 => k_is)
    (case l25 => k_is)
    (case c25 => k_is)
    (case k25 => k_is)
    (case a26 => k_is)
    (case l26 => k_is)
    (case c26 => k_is)
    (case k26 => k_is)
    (case a27 => k_is)
    (case l27 => k_is)
    (case c27 => k_is)
    (case k27 => k_is)
    (case a28 => k_is)
    (case l28 => k_is)
    (case c28 => k_is)
    (case k28 => k_is)
    (case a29 => k_is)
    (case l29 => k_is)
    (case c29 => k_is)
    (case k29 => k_is)
    (case a30 => k_is)
    (case l30 => k_is)
    (case c30 => k_is)
    (case k30 => k_is)
    (case a31 => k_is)
    (case l31 => k_is)
    (case c31 => k_is)
    (case k31 => k_is)
    (case z0 => k_is)
    (case z1 => k_is)
    (case z2 => k_is)
    (case z3 => k_is)
    (case z4 => k_is)
    (case z5 => k_is)
    (case z6 => k_is)
    (case z7 => k_is)
    (case z8 => k_is)
    (case y0 => k_is)
    (case y1 => k_is)
    (case y2 => k_is)
    (case y3 => k_is)
    (case y4 => k_is)
    (case y5 => k_is)
    (case y6 => k_is)
    (case y7 => exact ⟨rfl, _, _, rfl, by decide, .cons ⟨_, rfl⟩ (.cons ⟨_, rfl⟩ (.cons ⟨_, rfl⟩ .nil))⟩)
    (case y8 => exact ⟨⟨_, _, rfl, rfl⟩, ⟨_, _, rfl, rfl⟩, ⟨_, _, rfl, rfl⟩, trivial⟩)
    (case y9 => exact ⟨⟨_, rfl⟩, ⟨_, rfl⟩, ⟨_, rfl⟩⟩)
