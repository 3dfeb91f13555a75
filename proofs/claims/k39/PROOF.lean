import PyProof.Rows.All
import Wide.All
import OpenK.AllK
import Wide.FinOn
import HandS.ForMost
import HandS.IsInst
import HandS.Deep
import HandS.Walk
import KE.KDictKeyed
import KE.KDictDisplayH
import KE.DataMinMax
import KE.DataCmp
import KE.GoesEnum
import KE.GoesZip
import HandS.Style
import PySem.Challenge.RW_keylanes_k39_whole_walks
set_option Elab.async false
set_option linter.all false
set_option maxRecDepth 100000
set_option maxHeartbeats 4000000
/-! The plain law: regions, plays, walks, the table of best ways. No program in sight. -/
namespace KL

inductive Sg where
  | L | R
  deriving DecidableEq, Repr

abbrev Spn := Nat × Nat
abbrev Rg := List (Nat × Nat)

def clo (r : Rg) (x : Nat) : Nat := (r.getD x (1, 0)).1
def chi (r : Rg) (x : Nat) : Nat := (r.getD x (1, 0)).2
def opn (r : Rg) (u : Spn) : Bool := decide (u.1 < r.length) && (decide (clo r u.1 ≤ u.2) && decide (u.2 ≤ chi r u.1))
theorem opn_iff {r : Rg} {u : Spn} : opn r u = true ↔ u.1 < r.length ∧ clo r u.1 ≤ u.2 ∧ u.2 ≤ chi r u.1 := by
  unfold opn; simp [Bool.and_eq_true]

structure Reg (r : Rg) : Prop where
  pos : 0 < r.length
  len : r.length ≤ 5
  first : clo r 0 = 0
  col : ∀ x, x < r.length → clo r x ≤ chi r x ∧ chi r x ≤ 4
  step : ∀ x, x + 1 < r.length → clo r x ≤ clo r (x + 1) ∧ clo r (x + 1) ≤ chi r x ∧ chi r x ≤ chi r (x + 1)

def fin (r : Rg) : Spn := (r.length - 1, chi r (r.length - 1))

def colSp (r : Rg) (x : Nat) : List Spn := (List.range (chi r x + 1 - clo r x)).map fun j => (x, clo r x + j)
def spans (r : Rg) : List Spn := (List.range r.length).flatMap (colSp r)
theorem mem_colSp {r : Rg} {x : Nat} {u : Spn} : u ∈ colSp r x ↔ u.1 = x ∧ clo r x ≤ u.2 ∧ u.2 ≤ chi r x := by
  unfold colSp
  rw [List.mem_map]
  constructor
  · rintro ⟨j, hj, rfl⟩
    rw [List.mem_range] at hj
    exact ⟨rfl, by show clo r x ≤ clo r x + j; omega, by show clo r x + j ≤ chi r x; omega⟩
  · rintro ⟨h1, h2, h3⟩
    refine ⟨u.2 - clo r x, List.mem_range.mpr (by omega), ?_⟩
    obtain ⟨a, b⟩ := u
    subst h1
    show (a, clo r a + (b - clo r a)) = (a, b)
    have : clo r a + (b - clo r a) = b := by
      have : clo r a ≤ b := h2
      omega
    rw [this]
theorem mem_spans {r : Rg} {u : Spn} : u ∈ spans r ↔ opn r u = true := by
  unfold spans
  rw [List.mem_flatMap, opn_iff]
  constructor
  · rintro ⟨x, hx, hu⟩
    rw [mem_colSp] at hu
    rw [List.mem_range] at hx
    obtain ⟨rfl, h2, h3⟩ := hu
    exact ⟨hx, h2, h3⟩
  · rintro ⟨h1, h2, h3⟩
    exact ⟨u.1, List.mem_range.mpr h1, mem_colSp.mpr ⟨rfl, h2, h3⟩⟩

/-- ahead in the order of the spans -/
def Bef (u v : Spn) : Prop := u.1 < v.1 ∨ (u.1 = v.1 ∧ u.2 < v.2)
theorem pw_range {α : Type} {R : α → α → Prop} (f : Nat → α) (h : ∀ i j, i < j → R (f i) (f j)) : ∀ n, ((List.range n).map f).Pairwise R := by
  intro n
  rw [List.pairwise_map]
  exact (List.pairwise_lt_range).imp fun {a b} hab => h a b hab
theorem spans_pw (r : Rg) : (spans r).Pairwise Bef := by
  unfold spans
  rw [List.flatMap, List.pairwise_flatten]
  refine ⟨fun l hl => ?_, ?_⟩
  · obtain ⟨x, _, rfl⟩ := List.mem_map.mp hl
    exact pw_range _ (fun i j h => .inr ⟨rfl, by show clo r x + i < clo r x + j; omega⟩) _
  · refine pw_range _ (fun i j h u hu v hv => ?_) _
    rw [mem_colSp] at hu hv
    exact .inl (by omega)
theorem bef_mem {r : Rg} {pre post : List Spn} {u v : Spn} (e : spans r = pre ++ u :: post) (hv : v ∈ spans r) (hb : Bef v u) : v ∈ pre := by
  have pw := spans_pw r
  rw [e] at hv pw
  rcases List.mem_append.mp hv with h | h
  · exact h
  · rcases List.mem_cons.mp h with h | h
    · subst h
      rcases hb with z | z
      · omega
      · omega
    · have q := (List.pairwise_append.mp pw).2.1
      have q' := (List.pairwise_cons.mp q).1 v h
      rcases hb with z | z <;> rcases q' with y | y <;> omega

/-! ### steps -/
def after (u : Spn) : Sg → Spn
  | .L => (u.1 + 1, u.2)
  | .R => (u.1, u.2 + 1)
def stepsIn (r : Rg) (u : Spn) : List Sg := (if opn r (u.1 + 1, u.2) = true then [Sg.L] else []) ++ (if opn r (u.1, u.2 + 1) = true then [Sg.R] else [])
theorem mem_stepsIn {r : Rg} {u : Spn} {c : Sg} : c ∈ stepsIn r u ↔ opn r (after u c) = true := by
  unfold stepsIn
  cases c <;> by_cases h1 : opn r (u.1 + 1, u.2) = true <;> by_cases h2 : opn r (u.1, u.2 + 1) = true <;> simp [h1, h2, after]
def cost (u : Spn) (d : Option Sg) (c : Sg) : Int := if d = none ∨ d = some c then 1 else (u.1 : Int) + (u.2 : Int) + 1
def walkF (u : Spn) (d : Option Sg) : List Sg → Int
  | [] => 0
  | c :: w => cost u d c + walkF (after u c) (some c) w
def pathEnd (u : Spn) (w : List Sg) : Spn := w.foldl after u
def lastd (d : Option Sg) : List Sg → Option Sg
  | [] => d
  | c :: w => lastd (some c) w
def inReg (r : Rg) (u : Spn) : List Sg → Prop
  | [] => True
  | c :: w => opn r (after u c) = true ∧ inReg r (after u c) w
theorem pathEnd_snoc (u : Spn) (w : List Sg) (c : Sg) : pathEnd u (w ++ [c]) = after (pathEnd u w) c := by
  unfold pathEnd; rw [List.foldl_append]; rfl
theorem lastd_snoc : ∀ (d : Option Sg) (w : List Sg) (c : Sg), lastd d (w ++ [c]) = some c
  | _, [], _ => rfl
  | _, b :: w, c => lastd_snoc (some b) w c
theorem walkF_snoc : ∀ (w : List Sg) (u : Spn) (d : Option Sg) (c : Sg), walkF u d (w ++ [c]) = walkF u d w + cost (pathEnd u w) (lastd d w) c
  | [], u, d, c => by show cost u d c + 0 = 0 + cost u d c; omega
  | b :: w, u, d, c => by
    show cost u d b + walkF (after u b) (some b) (w ++ [c]) = cost u d b + walkF (after u b) (some b) w + _
    rw [walkF_snoc w]
    show _ = _ + cost (pathEnd (after u b) w) (lastd (some b) w) c
    omega
theorem inReg_snoc {r : Rg} : ∀ (w : List Sg) (u : Spn) (c : Sg), inReg r u (w ++ [c]) ↔ inReg r u w ∧ opn r (after (pathEnd u w) c) = true
  | [], u, c => by
    show (opn r (after u c) = true ∧ True) ↔ (True ∧ opn r (after u c) = true)
    simp
  | b :: w, u, c => by
    show (opn r (after u b) = true ∧ inReg r (after u b) (w ++ [c])) ↔ (opn r (after u b) = true ∧ inReg r (after u b) w) ∧ _
    rw [inReg_snoc w]
    show _ ∧ (_ ∧ opn r (after (pathEnd (after u b) w) c) = true) ↔ (_ ∧ _) ∧ opn r (after (pathEnd (after u b) w) c) = true
    exact and_assoc.symm
theorem snoc_cases {α : Type} (w : List α) : w = [] ∨ ∃ v c, w = v ++ [c] := by
  rcases List.eq_nil_or_concat w with h | ⟨v, c, h⟩
  · exact .inl h
  · exact .inr ⟨v, c, by simpa using h⟩
theorem opn00 {r : Rg} (h : Reg r) : opn r (0, 0) = true := opn_iff.mpr ⟨h.pos, by show clo r 0 ≤ 0; rw [h.first]; exact Nat.le_refl _, Nat.zero_le _⟩
theorem inReg_end {r : Rg} (h : Reg r) (w : List Sg) (hw : inReg r (0, 0) w) : opn r (pathEnd (0, 0) w) = true := by
  rcases snoc_cases w with rfl | ⟨v, c, rfl⟩
  · exact opn00 h
  · rw [pathEnd_snoc]
    exact ((inReg_snoc v _ c).mp hw).2
theorem end_sum : ∀ (w : List Sg) (u : Spn), (pathEnd u w).1 + (pathEnd u w).2 = u.1 + u.2 + w.length
  | [], u => by show u.1 + u.2 = u.1 + u.2 + 0; rfl
  | c :: w, u => by
    show (pathEnd (after u c) w).1 + (pathEnd (after u c) w).2 = u.1 + u.2 + (w.length + 1)
    rw [end_sum w]
    cases c
    · show u.1 + 1 + u.2 + w.length = _; omega
    · show u.1 + (u.2 + 1) + w.length = _; omega
theorem hi_mono {r : Rg} (h : Reg r) : ∀ (k x : Nat), x + k < r.length → chi r x ≤ chi r (x + k)
  | 0, x, _ => Nat.le_refl _
  | k + 1, x, hx => Nat.le_trans (hi_mono h k x (by omega)) (by
      have := (h.step (x + k) (by omega)).2.2
      rwa [Nat.add_assoc] at this)
theorem le_fin {r : Rg} (h : Reg r) {u : Spn} (hu : opn r u = true) : u.1 ≤ (fin r).1 ∧ u.2 ≤ (fin r).2 := by
  obtain ⟨h1, h2, h3⟩ := opn_iff.mp hu
  refine ⟨by show u.1 ≤ r.length - 1; omega, ?_⟩
  have := hi_mono h (r.length - 1 - u.1) u.1 (by omega)
  rw [show u.1 + (r.length - 1 - u.1) = r.length - 1 by omega] at this
  exact Nat.le_trans h3 this
theorem opn_fin {r : Rg} (h : Reg r) : opn r (fin r) = true := by
  have hl := h.pos
  have := h.col (r.length - 1) (by omega)
  exact opn_iff.mpr ⟨by show r.length - 1 < r.length; omega, this.1, Nat.le_refl _⟩
theorem fin_le {r : Rg} (h : Reg r) : (fin r).1 ≤ 4 ∧ (fin r).2 ≤ 4 := by
  have hl := h.pos
  have hm := h.len
  exact ⟨by show r.length - 1 ≤ 4; omega, (h.col (r.length - 1) (by omega)).2⟩
/-- from every span but the greatest one a step leads on -/
theorem goes_on {r : Rg} (h : Reg r) {u : Spn} (hu : opn r u = true) (hs : u.1 + u.2 < (fin r).1 + (fin r).2) : ∃ c, opn r (after u c) = true := by
  obtain ⟨h1, h2, h3⟩ := opn_iff.mp hu
  by_cases hy : u.2 < chi r u.1
  · exact ⟨.R, opn_iff.mpr ⟨h1, by show clo r u.1 ≤ u.2 + 1; omega, hy⟩⟩
  · have e : u.2 = chi r u.1 := by omega
    have hx : u.1 + 1 < r.length := by
      have hl := h.pos
      by_cases hx : u.1 + 1 < r.length
      · exact hx
      · exfalso
        have e1 : u.1 = r.length - 1 := by omega
        have : (fin r).1 = u.1 := e1.symm
        have : (fin r).2 = u.2 := by rw [e, e1]; rfl
        omega
    obtain ⟨_, q2, q3⟩ := h.step u.1 hx
    exact ⟨.L, opn_iff.mpr ⟨hx, by show clo r (u.1 + 1) ≤ u.2; omega, by show u.2 ≤ chi r (u.1 + 1); omega⟩⟩

/-! ### plays -/
def IsPlay (r : Rg) (w : List Sg) : Prop := inReg r (0, 0) w ∧ pathEnd (0, 0) w = fin r
def walk (w : List Sg) : Int := walkF (0, 0) none w
theorem play_len {r : Rg} (h : Reg r) {w : List Sg} (hw : inReg r (0, 0) w) : IsPlay r w ↔ w.length = (fin r).1 + (fin r).2 := by
  have e := end_sum w (0, 0)
  have e' : (pathEnd (0, 0) w).1 + (pathEnd (0, 0) w).2 = w.length := by rw [e]; simp
  constructor
  · rintro ⟨_, q⟩
    rw [← e', q]
  · intro q
    refine ⟨hw, ?_⟩
    have := le_fin h (inReg_end h w hw)
    exact Prod.ext (by omega) (by omega)
/-- one level of the law's list of words with their spans -/
def nexts (r : Rg) (p : List Sg × Spn) : List (List Sg × Spn) := ([Sg.L, Sg.R].filter fun c => decide (after p.2 c ∈ spans r)).map fun c => (p.1 ++ [c], after p.2 c)
def level (r : Rg) : Nat → List (List Sg × Spn)
  | 0 => [([], (0, 0))]
  | n + 1 => (level r n).flatMap (nexts r)
def every (r : Rg) : List (List Sg) := (level r ((fin r).1 + (fin r).2)).map (·.1)
theorem mem_nexts {r : Rg} {p q : List Sg × Spn} : q ∈ nexts r p ↔ ∃ c, opn r (after p.2 c) = true ∧ q = (p.1 ++ [c], after p.2 c) := by
  unfold nexts
  rw [List.mem_map]
  constructor
  · rintro ⟨c, hc, rfl⟩
    exact ⟨c, mem_spans.mp (of_decide_eq_true (List.mem_filter.mp hc).2), rfl⟩
  · rintro ⟨c, hc, rfl⟩
    exact ⟨c, List.mem_filter.mpr ⟨by cases c <;> simp, decide_eq_true (mem_spans.mpr hc)⟩, rfl⟩
theorem mem_level {r : Rg} : ∀ (n : Nat) (p : List Sg × Spn), p ∈ level r n ↔ p.1.length = n ∧ inReg r (0, 0) p.1 ∧ p.2 = pathEnd (0, 0) p.1
  | 0, p => by
    show p ∈ [([], (0, 0))] ↔ _
    rw [List.mem_singleton]
    constructor
    · rintro rfl
      exact ⟨rfl, trivial, rfl⟩
    · obtain ⟨w, u⟩ := p
      rintro ⟨h1, h2, h3⟩
      have e : w = [] := List.length_eq_zero_iff.mp h1
      subst e
      have h3 : u = (0, 0) := h3
      rw [h3]
  | n + 1, p => by
    show p ∈ (level r n).flatMap (nexts r) ↔ _
    rw [List.mem_flatMap]
    constructor
    · rintro ⟨q, hq, hp⟩
      obtain ⟨e1, e2, e3⟩ := (mem_level n q).mp hq
      obtain ⟨c, hc, rfl⟩ := mem_nexts.mp hp
      refine ⟨by show (q.1 ++ [c]).length = n + 1; rw [List.length_append, e1]; rfl, (inReg_snoc _ _ _).mpr ⟨e2, by rw [← e3]; exact hc⟩, ?_⟩
      show after q.2 c = pathEnd (0, 0) (q.1 ++ [c])
      rw [pathEnd_snoc, e3]
    · obtain ⟨w, u⟩ := p
      rintro ⟨h1, h2, h3⟩
      rcases snoc_cases w with rfl | ⟨v, c, rfl⟩
      · exact absurd h1 (by simp)
      · obtain ⟨q1, q2⟩ := (inReg_snoc _ _ _).mp h2
        refine ⟨(v, pathEnd (0, 0) v), (mem_level n _).mpr ⟨?_, q1, rfl⟩, mem_nexts.mpr ⟨c, q2, ?_⟩⟩
        · have : (v ++ [c]).length = n + 1 := h1
          rw [List.length_append] at this
          exact Nat.succ.inj this
        · have h3 : u = pathEnd (0, 0) (v ++ [c]) := h3
          rw [h3, pathEnd_snoc]
theorem mem_every {r : Rg} (h : Reg r) {w : List Sg} : w ∈ every r ↔ IsPlay r w := by
  unfold every
  rw [List.mem_map]
  constructor
  · rintro ⟨p, hp, rfl⟩
    obtain ⟨h1, h2, _⟩ := (mem_level _ p).mp hp
    exact (play_len h h2).mpr h1
  · intro q
    exact ⟨(w, pathEnd (0, 0) w), (mem_level _ _).mpr ⟨(play_len h q.1).mp q, q.1, rfl⟩, rfl⟩
theorem level_ne {r : Rg} (h : Reg r) : ∀ n, n ≤ (fin r).1 + (fin r).2 → ∃ p, p ∈ level r n
  | 0, _ => ⟨([], (0, 0)), (mem_level 0 _).mpr ⟨rfl, trivial, rfl⟩⟩
  | n + 1, hn => by
    obtain ⟨p, hp⟩ := level_ne h n (by omega)
    obtain ⟨h1, h2, h3⟩ := (mem_level n p).mp hp
    have e := end_sum p.1 (0, 0)
    rw [← h3, h1] at e
    have ho : opn r p.2 = true := by rw [h3]; exact inReg_end h _ h2
    have e' : p.2.1 + p.2.2 = n := by rw [e]; simp
    obtain ⟨c, hc⟩ := goes_on h ho (by omega)
    exact ⟨_, List.mem_flatMap.mpr ⟨p, hp, mem_nexts.mpr ⟨c, hc, rfl⟩⟩⟩
theorem every_ne {r : Rg} (h : Reg r) : every r ≠ [] := by
  obtain ⟨p, hp⟩ := level_ne h _ (Nat.le_refl _)
  intro e
  have : p.1 ∈ every r := List.mem_map.mpr ⟨p, hp, rfl⟩
  rw [e] at this
  cases this

/-! ### the table -/
abbrev NK := Spn × Option Sg
abbrev Tab := NK → Option (Int × List Sg)
def tput (T : Tab) (k : NK) (v : Int × List Sg) : Tab := fun j => if j = k then some v else T j
def T0 : Tab := fun k => if k = ((0, 0), none) then some (0, []) else none
def beats (m : Bool) (a b : Int) : Bool := if m = true then decide (a > b) else decide (a < b)
def asGood (m : Bool) (a b : Int) : Prop := if m = true then b ≤ a else a ≤ b
theorem asGood.refl (m : Bool) (a : Int) : asGood m a a := by unfold asGood; split <;> exact Int.le_refl a
theorem asGood.trans {m : Bool} {a b c : Int} (h1 : asGood m a b) (h2 : asGood m b c) : asGood m a c := by
  unfold asGood at *; split at h1 <;> split at h2 <;> (try split) <;> first | omega | contradiction | simp_all
theorem asGood.add {m : Bool} {a b : Int} (h : asGood m a b) (c : Int) : asGood m (a + c) (b + c) := by
  unfold asGood at *; cases m <;> simp at * <;> omega
theorem beats_good {m : Bool} {a b : Int} (h : beats m a b = true) : asGood m a b := by
  unfold beats at h; unfold asGood; cases m <;> simp at * <;> omega
theorem nbeats_good {m : Bool} {a b : Int} (h : beats m a b = false) : asGood m b a := by
  unfold beats at h; unfold asGood; cases m <;> simp at * <;> omega
/-- is what is told taken? -/
def takes (m : Bool) (n : Int) : Option (Int × List Sg) → Bool
  | none => true
  | some (j, _) => beats m n j
def relax (m : Bool) (u : Spn) (c : Sg) (T : Tab) (d : Option Sg) : Tab :=
  match T (u, d) with
  | none => T
  | some (n, w) => if takes m (n + cost u d c) (T (after u c, some c)) = true then tput T (after u c, some c) (n + cost u d c, w ++ [c]) else T
def sides : List (Option Sg) := [none, some .L, some .R]
def relaxC (m : Bool) (u : Spn) (T : Tab) (c : Sg) : Tab := sides.foldl (relax m u c) T
def relaxU (m : Bool) (r : Rg) (T : Tab) (u : Spn) : Tab := (stepsIn r u).foldl (relaxC m u) T
def table (m : Bool) (r : Rg) : Tab := (spans r).foldl (relaxU m r) T0

structure Sound (r : Rg) (T : Tab) : Prop where
  ok : ∀ u d n w, T (u, d) = some (n, w) → inReg r (0, 0) w ∧ pathEnd (0, 0) w = u ∧ lastd none w = d ∧ walk w = n
theorem after_ne (u : Spn) (c : Sg) : after u c ≠ u := by
  intro e
  cases c
  · have := congrArg Prod.fst e
    have : u.1 + 1 = u.1 := this
    omega
  · have := congrArg Prod.snd e
    have : u.2 + 1 = u.2 := this
    omega
theorem sound_relax {m : Bool} {r : Rg} {u : Spn} {c : Sg} {T : Tab} {d : Option Sg} (hc : opn r (after u c) = true) (S : Sound r T) : Sound r (relax m u c T d) := by
  unfold relax
  split
  · exact S
  · rename_i n w e
    split
    · refine ⟨fun u' d' n' w' h => ?_⟩
      unfold tput at h
      split at h
      · rename_i ek
        cases ek
        cases h
        obtain ⟨h1, h2, h3, h4⟩ := S.ok _ _ _ _ e
        refine ⟨(inReg_snoc _ _ _).mpr ⟨h1, by rw [h2]; exact hc⟩, by rw [pathEnd_snoc, h2], lastd_snoc _ _ _, ?_⟩
        unfold walk at *
        rw [walkF_snoc, h2, h3, h4]
      · exact S.ok _ _ _ _ h
    · exact S
/-- entries stay or grow better -/
def Grows (m : Bool) (T T' : Tab) : Prop := ∀ k n w, T k = some (n, w) → ∃ n' w', T' k = some (n', w') ∧ asGood m n' n
theorem Grows.refl (m : Bool) (T : Tab) : Grows m T T := fun _ n w h => ⟨n, w, h, asGood.refl m n⟩
theorem Grows.trans {m : Bool} {A B C : Tab} (h1 : Grows m A B) (h2 : Grows m B C) : Grows m A C := fun k n w h => by
  obtain ⟨n1, w1, e1, g1⟩ := h1 k n w h
  obtain ⟨n2, w2, e2, g2⟩ := h2 k n1 w1 e1
  exact ⟨n2, w2, e2, g2.trans g1⟩
theorem relax_grows (m : Bool) (u : Spn) (c : Sg) (T : Tab) (d : Option Sg) : Grows m T (relax m u c T d) := by
  unfold relax
  split
  · exact Grows.refl m T
  · rename_i n w e
    split
    · rename_i ht
      intro k n' w' h
      by_cases ek : k = (after u c, some c)
      · subst ek
        refine ⟨n + cost u d c, w ++ [c], by unfold tput; rw [if_pos rfl], ?_⟩
        rw [h] at ht
        exact beats_good ht
      · exact ⟨n', w', by unfold tput; rw [if_neg ek]; exact h, asGood.refl m n'⟩
    · exact Grows.refl m T
theorem relax_cases (m : Bool) (u : Spn) (c : Sg) (T : Tab) (d : Option Sg) : relax m u c T d = T ∨ ∃ v, relax m u c T d = tput T (after u c, some c) v := by
  unfold relax
  split
  · exact .inl rfl
  · split
    · exact .inr ⟨_, rfl⟩
    · exact .inl rfl
/-- what is at the span itself stays -/
theorem relax_here (m : Bool) (u : Spn) (c : Sg) (T : Tab) (d d' : Option Sg) : relax m u c T d (u, d') = T (u, d') := by
  rcases relax_cases m u c T d with e | ⟨v, e⟩
  · rw [e]
  · rw [e]
    unfold tput
    rw [if_neg fun e => after_ne u c (congrArg Prod.fst e).symm]
/-- the entry is told of -/
theorem relax_told (m : Bool) (u : Spn) (c : Sg) (T : Tab) (d : Option Sg) (n : Int) (w : List Sg) (h : T (u, d) = some (n, w)) :
    ∃ n' w', relax m u c T d (after u c, some c) = some (n', w') ∧ asGood m n' (n + cost u d c) := by
  unfold relax
  rw [h]
  show ∃ n' w', (if takes m (n + cost u d c) (T (after u c, some c)) = true then tput T (after u c, some c) (n + cost u d c, w ++ [c]) else T) (after u c, some c) = some (n', w') ∧ _
  by_cases ht : takes m (n + cost u d c) (T (after u c, some c)) = true
  · rw [if_pos ht]
    exact ⟨_, _, by unfold tput; rw [if_pos rfl], asGood.refl _ _⟩
  · rw [if_neg ht]
    cases e : T (after u c, some c) with
    | none => rw [e] at ht; exact absurd rfl ht
    | some p =>
      obtain ⟨j, w'⟩ := p
      rw [e] at ht
      have : beats m (n + cost u d c) j = false := by
        have ht : ¬ beats m (n + cost u d c) j = true := ht
        simpa using ht
      exact ⟨j, w', rfl, nbeats_good this⟩
theorem fold_inv {α β : Type} {P : β → Prop} (f : β → α → β) (h : ∀ b a, P b → P (f b a)) : ∀ (l : List α) (b : β), P b → P (l.foldl f b)
  | [], _, p => p
  | a :: l, b, p => fold_inv f h l (f b a) (h b a p)
theorem relaxs_grows (m : Bool) (u : Spn) (c : Sg) (ds : List (Option Sg)) (T : Tab) : Grows m T (ds.foldl (relax m u c) T) :=
  fold_inv (P := fun T' => Grows m T T') _ (fun b a h => h.trans (relax_grows m u c b a)) ds T (Grows.refl m T)
theorem relaxs_here (m : Bool) (u : Spn) (c : Sg) (ds : List (Option Sg)) (T : Tab) (d' : Option Sg) : (ds.foldl (relax m u c) T) (u, d') = T (u, d') :=
  fold_inv (P := fun T' => T' (u, d') = T (u, d')) _ (fun b a h => (relax_here m u c b a d').trans h) ds T rfl
theorem relaxs_told (m : Bool) (u : Spn) (c : Sg) (n : Int) (w : List Sg) : ∀ (ds : List (Option Sg)) (T : Tab) (d : Option Sg), d ∈ ds → T (u, d) = some (n, w) →
    ∃ n' w', (ds.foldl (relax m u c) T) (after u c, some c) = some (n', w') ∧ asGood m n' (n + cost u d c)
  | [], _, _, h, _ => by cases h
  | a :: ds, T, d, h, e => by
    show ∃ n' w', (ds.foldl (relax m u c) (relax m u c T a)) (after u c, some c) = some (n', w') ∧ _
    rcases List.mem_cons.mp h with h | h
    · subst h
      obtain ⟨n1, w1, e1, g1⟩ := relax_told m u c T d n w e
      obtain ⟨n2, w2, e2, g2⟩ := relaxs_grows m u c ds _ _ _ _ e1
      exact ⟨n2, w2, e2, g2.trans g1⟩
    · exact relaxs_told m u c n w ds _ d h (by rw [relax_here]; exact e)
theorem sides_all (d : Option Sg) : d ∈ sides := by
  rcases d with _ | _ | _ <;> simp [sides]
theorem relaxC_told (m : Bool) (u : Spn) (T : Tab) (c : Sg) (d : Option Sg) (n : Int) (w : List Sg) (e : T (u, d) = some (n, w)) :
    ∃ n' w', relaxC m u T c (after u c, some c) = some (n', w') ∧ asGood m n' (n + cost u d c) := relaxs_told m u c n w sides T d (sides_all d) e
theorem relaxC_grows (m : Bool) (u : Spn) (T : Tab) (c : Sg) : Grows m T (relaxC m u T c) := relaxs_grows m u c sides T
theorem relaxC_here (m : Bool) (u : Spn) (T : Tab) (c : Sg) (d' : Option Sg) : relaxC m u T c (u, d') = T (u, d') := relaxs_here m u c sides T d'
theorem relaxCs_grows (m : Bool) (u : Spn) (cs : List Sg) (T : Tab) : Grows m T (cs.foldl (relaxC m u) T) :=
  fold_inv (P := fun T' => Grows m T T') _ (fun b a h => h.trans (relaxC_grows m u b a)) cs T (Grows.refl m T)
theorem relaxCs_told (m : Bool) (u : Spn) (d : Option Sg) (n : Int) (w : List Sg) : ∀ (cs : List Sg) (T : Tab) (c : Sg), c ∈ cs → T (u, d) = some (n, w) →
    ∃ n' w', (cs.foldl (relaxC m u) T) (after u c, some c) = some (n', w') ∧ asGood m n' (n + cost u d c)
  | [], _, _, h, _ => by cases h
  | a :: cs, T, c, h, e => by
    show ∃ n' w', (cs.foldl (relaxC m u) (relaxC m u T a)) (after u c, some c) = some (n', w') ∧ _
    rcases List.mem_cons.mp h with h | h
    · subst h
      obtain ⟨n1, w1, e1, g1⟩ := relaxC_told m u T c d n w e
      obtain ⟨n2, w2, e2, g2⟩ := relaxCs_grows m u cs _ _ _ _ e1
      exact ⟨n2, w2, e2, g2.trans g1⟩
    · exact relaxCs_told m u d n w cs _ c h (by rw [relaxC_here]; exact e)
theorem relaxU_grows (m : Bool) (r : Rg) (T : Tab) (u : Spn) : Grows m T (relaxU m r T u) := relaxCs_grows m u _ T
theorem sound_relaxU {m : Bool} {r : Rg} {T : Tab} {u : Spn} (S : Sound r T) : Sound r (relaxU m r T u) := by
  have cs : ∀ (l : List Sg), (∀ c ∈ l, opn r (after u c) = true) → ∀ T, Sound r T → Sound r (l.foldl (relaxC m u) T) := by
    intro l
    induction l with
    | nil => intro _ T S; exact S
    | cons c l ih =>
      intro hl T S
      refine ih (fun c' h' => hl c' (List.mem_cons_of_mem _ h')) _ ?_
      exact fold_inv (P := fun T' => Sound r T') _ (fun b a h => sound_relax (hl c List.mem_cons_self) h) sides T S
  exact cs _ (fun c hc => mem_stepsIn.mp hc) T S
/-- all words whose last step goes out of a span that is done are told of -/
structure Told (m : Bool) (r : Rg) (done : List Spn) (T : Tab) : Prop where
  zero : ∃ w, T ((0, 0), none) = some (0, w)
  one : ∀ w c, inReg r (0, 0) (w ++ [c]) → pathEnd (0, 0) w ∈ done → ∃ n w', T (after (pathEnd (0, 0) w) c, some c) = some (n, w') ∧ asGood m n (walk (w ++ [c]))
theorem bef_after (u : Spn) (c : Sg) : Bef u (after u c) := by
  cases c
  · exact .inl (by show u.1 < u.1 + 1; omega)
  · exact .inr ⟨rfl, by show u.2 < u.2 + 1; omega⟩
theorem told_relaxU {m : Bool} {r : Rg} (h : Reg r) {pre post : List Spn} {u : Spn} (e : spans r = pre ++ u :: post) {T : Tab} (S : Told m r pre T) (z : ∀ d w, d ≠ none → T ((0, 0), d) = some w → False) : Told m r (pre ++ [u]) (relaxU m r T u) := by
  refine ⟨?_, fun w c hw hd => ?_⟩
  · obtain ⟨w, hz⟩ := S.zero
    have keep : ∀ (l : List Sg) (T : Tab), (∃ w, T ((0, 0), none) = some (0, w)) → ∃ w, (l.foldl (relaxC m u) T) ((0, 0), none) = some (0, w) := by
      intro l T hT
      refine fold_inv (P := fun T' => ∃ w, T' ((0, 0), none) = some (0, w)) _ (fun b c hb => ?_) l T hT
      refine fold_inv (P := fun T' => ∃ w, T' ((0, 0), none) = some (0, w)) _ (fun b d hb => ?_) sides b hb
      rcases relax_cases m u c b d with e | ⟨v, e⟩
      · rw [e]
        exact hb
      · rw [e]
        unfold tput
        rw [if_neg fun q => by
          have q2 : (none : Option Sg) = some c := congrArg Prod.snd q
          cases q2]
        exact hb
    exact keep _ T ⟨w, hz⟩
  · rcases List.mem_append.mp hd with hd | hd
    · obtain ⟨n, w', e1, g1⟩ := S.one w c hw hd
      obtain ⟨n2, w2, e2, g2⟩ := relaxU_grows m r T u _ _ _ e1
      exact ⟨n2, w2, e2, g2.trans g1⟩
    · have hu : pathEnd (0, 0) w = u := List.mem_singleton.mp hd
      obtain ⟨hw1, hw2⟩ := (inReg_snoc _ _ _).mp hw
      -- the entry at u for w
      have entry : ∃ n w', T (u, lastd none w) = some (n, w') ∧ asGood m n (walk w) := by
        rcases snoc_cases w with rfl | ⟨v, b, rfl⟩
        · obtain ⟨w', hz⟩ := S.zero
          have : (0, 0) = u := hu
          subst this
          exact ⟨0, w', hz, asGood.refl m 0⟩
        · obtain ⟨hv1, hv2⟩ := (inReg_snoc _ _ _).mp hw1
          rw [pathEnd_snoc] at hu
          have hm : pathEnd (0, 0) v ∈ pre := bef_mem e (mem_spans.mpr (inReg_end h v hv1)) (by rw [← hu]; exact bef_after _ _)
          obtain ⟨n, w', e1, g1⟩ := S.one v b hw1 hm
          rw [hu] at e1
          exact ⟨n, w', by rw [lastd_snoc]; exact e1, g1⟩
      obtain ⟨n, w', e1, g1⟩ := entry
      obtain ⟨n2, w2, e2, g2⟩ := relaxCs_told m u (lastd none w) n w' (stepsIn r u) T c (mem_stepsIn.mpr (by rw [← hu]; exact hw2)) e1
      refine ⟨n2, w2, by rw [hu]; exact e2, g2.trans ?_⟩
      unfold walk
      rw [walkF_snoc, hu]
      exact asGood.add g1 _
theorem table_facts (m : Bool) {r : Rg} (h : Reg r) : Sound r (table m r) ∧ Told m r (spans r) (table m r) := by
  have go : ∀ (post pre : List Spn) (T : Tab), spans r = pre ++ post → Sound r T → Told m r pre T → Sound r (post.foldl (relaxU m r) T) ∧ Told m r (spans r) (post.foldl (relaxU m r) T) := by
    intro post
    induction post with
    | nil =>
      intro pre T e S O
      rw [List.append_nil] at e
      rw [e]
      exact ⟨S, O⟩
    | cons u post ih =>
      intro pre T e S O
      refine ih (pre ++ [u]) _ (by rw [e, List.append_assoc]; rfl) (sound_relaxU S) (told_relaxU h e O fun d w hd hT => ?_)
      obtain ⟨h1, h2, h3, h4⟩ := S.ok _ _ _ _ hT
      have q := end_sum w.2 (0, 0)
      rw [h2] at q
      have : w.2.length = 0 := by
        have q : 0 + 0 = 0 + 0 + w.2.length := q
        omega
      have : w.2 = [] := List.length_eq_zero_iff.mp this
      rw [this] at h3
      exact hd h3.symm
  refine go (spans r) [] T0 rfl ⟨fun u d n w h => ?_⟩ ⟨⟨[], rfl⟩, fun w c _ hd => by cases hd⟩
  unfold T0 at h
  split at h
  · rename_i ek
    cases ek
    cases h
    exact ⟨trivial, rfl, rfl, rfl⟩
  · cases h

/-! ### the ends -/
structure End (r : Rg) (T : Tab) (n : Int) (d : Option Sg) (w : List Sg) : Prop where
  at_ : T (fin r, d) = some (n, w)
theorem end_play {m : Bool} {r : Rg} (h : Reg r) {n : Int} {d : Option Sg} {w : List Sg} (e : table m r (fin r, d) = some (n, w)) : IsPlay r w ∧ lastd none w = d ∧ walk w = n := by
  obtain ⟨h1, h2, h3, h4⟩ := (table_facts m h).1.ok _ _ _ _ e
  exact ⟨⟨h1, h2⟩, h3, h4⟩
theorem play_end {m : Bool} {r : Rg} (h : Reg r) {w : List Sg} (p : IsPlay r w) : ∃ n w', table m r (fin r, lastd none w) = some (n, w') ∧ asGood m n (walk w) := by
  obtain ⟨S, O⟩ := table_facts m h
  rcases snoc_cases w with rfl | ⟨v, c, rfl⟩
  · obtain ⟨w', hz⟩ := O.zero
    have : (0, 0) = fin r := p.2
    exact ⟨0, w', by rw [← this]; exact hz, asGood.refl m 0⟩
  · obtain ⟨h1, h2⟩ := (inReg_snoc _ _ _).mp p.1
    obtain ⟨n, w', e, g⟩ := O.one v c p.1 (mem_spans.mpr (inReg_end h v h1))
    have q := p.2
    rw [pathEnd_snoc] at q
    rw [q] at e
    exact ⟨n, w', by rw [lastd_snoc]; exact e, g⟩
end KL
namespace L2
namespace KX
open PySem PySem.W PySem.Spec PyProof.Rows

/-! ### a dict whose keys are pairs of a pair of ints and a text, and whose values are objects -/
abbrev NE := NestedKey × Addr × Addr
def nL (ys : List NE) : List (NestedKey × Addr × Value) := ys.map fun y => (y.1, y.2.1, Value.ref y.2.2)
def nAt (ys : List NE) (k : NestedKey) : Option Addr := (ys.find? fun y => decide (y.1 = k)).map fun y => y.2.2
def nPut (ys : List NE) (k : NestedKey) (b v : Addr) : List NE := if (nAt ys k).isSome = true then ys.map fun y => if y.1 = k then (y.1, y.2.1, v) else y else ys ++ [(k, b, v)]
theorem atKey_nL (k : NestedKey) : ∀ ys : List NE, (atKey (nL ys) k).map (·.2) = (nAt ys k).map Value.ref
  | [] => rfl
  | y :: ys => by
    by_cases e : y.1 = k
    · simp [atKey, nL, nAt, List.find?_cons, e]
    · have ih := atKey_nL k ys
      simpa [atKey, nL, nAt, List.find?_cons, e] using ih
theorem atKey_some {k : NestedKey} {ys : List NE} : (atKey (nL ys) k).isSome = (nAt ys k).isSome := by
  have := congrArg Option.isSome (atKey_nL k ys)
  simpa using this
theorem stored_nL (ys : List NE) (k : NestedKey) (b v : Addr) : storedH (nL ys) k b (.ref v) = nL (nPut ys k b v) := by
  unfold storedH nPut
  rw [atKey_some]
  by_cases h : (nAt ys k).isSome = true
  · rw [if_pos h, if_pos h]
    unfold nL
    rw [List.map_map, List.map_map]
    refine List.map_congr_left fun y _ => ?_
    show putAt k (.ref v) (y.1, y.2.1, Value.ref y.2.2) = _
    unfold putAt
    by_cases e : y.1 = k
    · simp [e]
    · simp [e]
  · rw [if_neg h, if_neg h]
    simp [nL]
theorem nPut_len (ys : List NE) (k : NestedKey) (b v : Addr) : (nPut ys k b v).length ≤ ys.length + 1 := by
  unfold nPut
  split <;> simp
theorem nAt_map (k j : NestedKey) (v : Addr) : ∀ ys : List NE, nAt (ys.map fun y => if y.1 = k then (y.1, y.2.1, v) else y) j = (nAt ys j).map fun x => if j = k then v else x
  | [] => rfl
  | y :: ys => by
    have ih := nAt_map k j v ys
    unfold nAt at ih ⊢
    rw [List.map_cons, List.find?_cons, List.find?_cons]
    by_cases e : y.1 = k
    · rw [if_pos e]
      by_cases e2 : y.1 = j
      · have : j = k := e2.symm.trans e
        simp [e2, this]
      · have d : decide (y.1 = j) = false := decide_eq_false e2
        rw [d]
        exact ih
    · rw [if_neg e]
      by_cases e2 : y.1 = j
      · have : ¬ j = k := fun z => e (e2.trans z)
        simp [e2, this]
      · have d : decide (y.1 = j) = false := decide_eq_false e2
        rw [d]
        exact ih
theorem nAt_snoc (k j : NestedKey) (b v : Addr) : ∀ ys : List NE, nAt ys k = none → nAt (ys ++ [(k, b, v)]) j = if j = k then some v else nAt ys j
  | [], _ => by
    unfold nAt
    by_cases e : j = k
    · subst e; simp
    · have : ¬ k = j := fun z => e z.symm
      simp [e, this]
  | y :: ys, h => by
    unfold nAt at h ⊢
    rw [List.cons_append, List.find?_cons, List.find?_cons]
    rw [List.find?_cons] at h
    by_cases e : y.1 = k
    · rw [decide_eq_true e] at h
      exact absurd h (by simp)
    · rw [decide_eq_false e] at h
      have ih := nAt_snoc k j b v ys h
      unfold nAt at ih
      by_cases e2 : y.1 = j
      · have : ¬ j = k := fun z => e (e2.trans z)
        simp [e2, this]
      · rw [decide_eq_false e2]
        exact ih
theorem nAt_put (ys : List NE) (k j : NestedKey) (b v : Addr) : nAt (nPut ys k b v) j = if j = k then some v else nAt ys j := by
  unfold nPut
  by_cases h : (nAt ys k).isSome = true
  · rw [if_pos h, nAt_map]
    by_cases e : j = k
    · subst e
      rw [if_pos rfl]
      obtain ⟨x, hx⟩ := Option.isSome_iff_exists.mp h
      rw [hx]; simp
    · rw [if_neg e]
      simp [e]
  · rw [if_neg h]
    exact nAt_snoc k j b v ys (by simpa using h)
theorem nPut_mem {ys : List NE} {k : NestedKey} {b v : Addr} {y : NE} (h : y ∈ nPut ys k b v) : (y.1 = k ∧ y.2.1 = b) ∨ ∃ y' ∈ ys, y'.1 = y.1 ∧ y'.2.1 = y.2.1 := by
  unfold nPut at h
  split at h
  · obtain ⟨y', h1, h2⟩ := List.mem_map.mp h
    split at h2
    · subst h2
      exact .inr ⟨y', h1, rfl, rfl⟩
    · subst h2
      exact .inr ⟨_, h1, rfl, rfl⟩
  · rcases List.mem_append.mp h with h | h
    · exact .inr ⟨y, h, rfl, rfl⟩
    · rw [List.mem_singleton] at h
      subst h
      exact .inl ⟨rfl, rfl⟩

/-- the object at a: a dict with these entries -/
def dN (P : Program) (w : World) (a : Addr) (ys : List NE) : HO :=
  .ext fun h => ∃ o es ep, h.get? a = some o ∧ o.ExactDict ∧ o.data = .dict es ep ∧ es.toList = (nL ys).map (entryOfKey (nestedKind P w)) ∧ ((nL ys).map (·.1)).Nodup
/-- the tuple at b is the key k -/
def NKat (H : Hp) (b : Addr) (k : NestedKey) : Prop :=
  ∃ (c : Addr) (i j : Int) (z : Str), H b = some (.tup [.ref c, .str z]) ∧ H c = some (.tup [.int i, .int j]) ∧ k = .tup [.tup [.num i, .num j], .text z]
structure NDict (P : Program) (w : World) (H : Hp) (a : Addr) (ys : List NE) : Prop where
  at_ : H a = some (dN P w a ys)
  len : ys.length ≤ sizeLine
  nsm : (a == sysModules) = false
  keys : ∀ y ∈ ys, NKat H y.2.1 y.1
theorem NKat.same {H H' : Hp} {b : Addr} {k : NestedKey} (h : NKat H b k) (s : ∀ a xs, H a = some (.tup xs) → H' a = some (.tup xs)) : NKat H' b k := by
  obtain ⟨c, i, j, z, h1, h2, h3⟩ := h
  exact ⟨c, i, j, z, s _ _ h1, s _ _ h2, h3⟩
section
variable {P : Program} {w : World} {H : Hp} {h : Heap} {a b : Addr} {k : NestedKey} {ys : List NE}
theorem nk_is (ok : HOk P w H h) (g : NKat H b k) : (nestedKind P w).is h k b := by
  obtain ⟨c, i, j, z, h1, h2, rfl⟩ := g
  obtain ⟨_, its, r, o, e1, e2, n, e3⟩ := (show ObjOk P w H h b (.tup [.ref c, .str z]) from ok b _ h1)
  obtain ⟨_, its', r', o', f1, f2, n', f3⟩ := (show ObjOk P w H h c (.tup [.int i, .int j]) from ok c _ h2)
  obtain ⟨u1, u2, rfl, q1, q2⟩ := vals2 r
  obtain ⟨u3, u4, rfl, q3, q4⟩ := vals2 r'
  obtain rfl : u1 = Value.ref c := q1
  obtain ⟨t2, rfl⟩ := q2
  obtain ⟨t3, rfl⟩ := q3
  obtain ⟨t4, rfl⟩ := q4
  refine ⟨.tup e1 e2 e3 ?_, by simp [NestedKey.depth, NestedKey.depthAll]⟩
  refine .cons (.tup f1 f2 f3 (.cons (.int i t3) (.cons (.int j t4) .nil))) (.cons (.text z t2) .nil)
theorem nd_of (ok : HOk P w H h) (D : NDict P w H a ys) : h.DictOfH (nestedKind P w) a (nL ys) := by
  obtain ⟨⟨o, es, ep, h1, h2, h3, h4, h5⟩, _, _⟩ := (show ObjOk P w H h a (dN P w a ys) from ok a _ D.at_)
  refine ⟨o, es, ep, h1, h2, h3, h4, fun x hx => ?_, h5⟩
  obtain ⟨y, hy, rfl⟩ := List.mem_map.mp hx
  exact nk_is ok (D.keys y hy)
theorem dN_ok {H' : Hp} {h' : Heap} (d : h'.DictOfH (nestedKind P w) a (nL ys)) : ObjOk P w H' h' a (dN P w a ys) := by
  obtain ⟨o, es, ep, h1, h2, h3, h4, _, h5⟩ := d
  refine ⟨⟨o, es, ep, h1, h2, h3, h4, h5⟩, ⟨o, h1⟩, fun g1 g2 p s => ?_⟩
  obtain ⟨o, es, ep, h1, h2, h3, h4, h5⟩ := p
  exact ⟨o, es, ep, s o h1, h2, h3, h4, h5⟩
theorem n_tups {o : HO} (D : H a = some (dN P w a ys)) : ∀ c xs, H c = some (.tup xs) → upd H a o c = some (.tup xs) := fun c xs e => by
  rw [upd_ne (ne_of e D fun z => nomatch z)]
  exact e
theorem NDict.put (D : NDict P w H a ys) {v : Addr} (g : NKat H b k) (l : ys.length < sizeLine) : NDict P w (upd H a (dN P w a (nPut ys k b v))) a (nPut ys k b v) where
  at_ := upd_same
  len := by have := nPut_len ys k b v; omega
  nsm := D.nsm
  keys := fun y hy => by
    rcases nPut_mem hy with ⟨e1, e2⟩ | ⟨y', h1, e1, e2⟩
    · rw [e1, e2]
      exact g.same (n_tups D.at_)
    · rw [← e1, ← e2]
      exact (D.keys y' h1).same (n_tups D.at_)
/-- all that is not the dict's own may grow -/
theorem NDict.same {H' : Hp} (D : NDict P w H a ys) (s : Same H H') : NDict P w H' a ys :=
  ⟨s _ _ D.at_, D.len, D.nsm, fun y hy => (D.keys y hy).same fun c xs e => s c _ e⟩
end

section
variable {X : Cx} {pins : List (Addr × Obj)} {σ : St} {H : Hp} {s : Shared} {a b : Addr} {k : NestedKey} {ys : List NE} {A : Around} {E : Value → Shared → Prop}
theorem n_room (hu : A.units + 9 < cLine) : (nestedKind X.prog X.w).room A.in1 := by show A.units + 1 + 8 < cLine; omega
theorem nd_getItem {v : Addr} {Q : Value → Shared → Prop} (hu : A.units + 9 < cLine) (I : Inv X pins σ H s) (D : NDict X.prog X.w H a ys) (g : NKat H b k) (hv : nAt ys k = some v) (h : ∀ s', Inv X pins σ H s' → Q (.ref v) s') :
    wpAny (model X.prog X.w) A (getItem (.ref a) (.ref b)) Q E s := by
  have e := atKey_nL k ys
  rw [hv] at e
  obtain ⟨p, hp, hp2⟩ := Option.map_eq_some_iff.mp e
  refine wpAny_getItem_heap (n_room hu) (nk_is I.hok g) (nd_of I.hok D) hp ?_
  have hp2 : p.2 = Value.ref v := hp2
  rw [hp2]
  exact h _ (I.tok _)
theorem nd_in {Q : Value → Shared → Prop} (hu : A.units + 9 < cLine) (I : Inv X pins σ H s) (D : NDict X.prog X.w H a ys) (g : NKat H b k) (h : ∀ s', Inv X pins σ H s' → Q (.bool (nAt ys k).isSome) s') :
    wpAny (model X.prog X.w) A (compareOp .In (.ref b) (.ref a)) Q E s := by
  refine wpAny_in_heap (n_room hu) (nk_is I.hok g) D.nsm (nd_of I.hok D) ?_
  rw [atKey_some]
  exact h _ (I.tok _)
theorem nd_get1 {Q : Value → Shared → Prop} (hu : A.units + 9 < cLine) (I : Inv X pins σ H s) (D : NDict X.prog X.w H a ys) (g : NKat H b k)
    (h : ∀ s', Inv X pins σ H s' → Q (((nAt ys k).map Value.ref).getD .none) s') : wpAny (model X.prog X.w) A (call (.builtin "dict.get") [.ref a, .ref b]) Q E s := by
  refine call_meetsIn PySem.F.slot_dict_get (nd_of I.hok D).typeIs PySem.F.entry_dict_get (PySem.F.args_dict_get_2 _ _) (meetsH_dict_get (nestedKind X.prog X.w) a b D.nsm) ⟨n_room hu, k, nL ys, nk_is I.hok g, nd_of I.hok D, ?_⟩
  rw [atKey_nL]
  exact h _ (I.tok _)
theorem nd_setItem {v : Addr} {Q : Unit → Shared → Prop} (hu : A.units + 9 < cLine) (I : Inv X pins σ H s) (D : NDict X.prog X.w H a ys) (g : NKat H b k) (l : ys.length < sizeLine)
    (h : ∀ s', Inv X pins σ (upd H a (dN X.prog X.w a (nPut ys k b v))) s' → Q () s') : wpAny (model X.prog X.w) A (setItem (.ref a) (.ref b) (.ref v)) Q E s := by
  have hz : (nL ys).length ≤ sizeLine := by unfold nL; rw [List.length_map]; exact D.len
  refine wpAny_setItem_heap (hsz := hz) (n_room hu) (nk_is I.hok g) (nd_of I.hok D) fun h' dd' hs => h _ ?_
  rw [stored_nL] at dd'
  have he : ∃ q, h'.get? a = some q := let ⟨q, _, _, hq, _⟩ := dd'; ⟨q, hq⟩
  exact d_write I (by rw [D.at_]; exact True.intro) hs he (dN_ok dd')
end

/-! ### readings and rules -/
def tNIn (P : Program) (w : World) (ty td : TE) : TE := fun σ H Q => ty σ H fun y H1 => td σ H1 fun x H2 => ∃ a b k ys, x = .ref a ∧ y = .ref b ∧ NDict P w H2 a ys ∧ NKat H2 b k ∧ Q (.bl (nAt ys k).isSome) H2
def tNGet (P : Program) (w : World) (td ty : TE) : TE := fun σ H Q => td σ H fun x H1 => ty σ H1 fun y H2 => ∃ a b k ys v, x = .ref a ∧ y = .ref b ∧ NDict P w H2 a ys ∧ NKat H2 b k ∧ nAt ys k = some v ∧ Q (.ref v) H2
def tNGet1 (P : Program) (w : World) (td ty : TE) : TE := fun σ H Q => td σ H fun x H1 => ∃ a ys, x = .ref a ∧ NDict P w H1 a ys ∧ ty σ H1 fun y H2 => ∃ b k, y = .ref b ∧ NDict P w H2 a ys ∧ NKat H2 b k ∧ Q (((nAt ys k).map V.ref).getD .non) H2
def sNPut (P : Program) (w : World) (td ty tv : TE) : TS := fun D σ H => tv σ H fun v H1 => td σ H1 fun x H2 => ty σ H2 fun y H3 => ∃ a b k ys c, v = .ref c ∧ x = .ref a ∧ y = .ref b ∧ NDict P w H3 a ys ∧ NKat H3 b k ∧ ys.length < sizeLine ∧
  D.nx σ (upd H3 a (dN P w a (nPut ys k b c)))
def tNDisp (P : Program) (w : World) (tk tv : TE) : TE := fun σ H Q => ∀ p, H p = none → tk σ (upd H p (dN P w p [])) fun y H1 => tv σ H1 fun v H2 => ∃ b c k, y = .ref b ∧ v = .ref c ∧ H2 p = some (dN P w p []) ∧ NKat H2 b k ∧
  (NDict P w (upd H2 p (dN P w p [(k, b, c)])) p [(k, b, c)] → Q (.ref p) (upd H2 p (dN P w p [(k, b, c)])))
section
variable {X : Cx} {o i e value : Expr} {pos pos' tpos apos cpos : Pos} {td ty tv tk : TE}
theorem pe_nget (hu : X.A.units + 9 < cLine) (ho : PE X o td) (hi : PE X i ty) (hs : NoSl i) : PE X (.Subscript o i pos) (tNGet X.prog X.w td ty) := by
  refine ⟨fun pins s σ H Q I h => ?_⟩
  refine subD_of PySem.F.slot_dict_getitem.lookup hs (thn (ho.run pins s σ H _ I h) fun u s1 ⟨x, H1, I1, rx, q1⟩ => thn (hi.run pins s1 σ H1 _ I1 q1) fun iv s2 ⟨y, H2, I2, ry, a, b, k, ys, v, ex, ey, D, g, hv, q2⟩ => ?_)
  subst ex ey
  obtain rfl : u = Value.ref a := rx
  obtain rfl : iv = Value.ref b := ry
  exact ⟨(nd_of I2.hok D).typeIs, nd_getItem hu I2 D g hv fun s3 I3 => ⟨.ref v, H2, I3, rfl, q2⟩⟩
theorem pc_nin (hu : X.A.units + 9 < cLine) (hi : PE X i ty) (ho : PE X o td) : PC X .In i o (tNIn X.prog X.w ty td) := by
  refine ⟨fun pins s σ H Q I h => ?_⟩
  refine thn (hi.run pins s σ H _ I h) fun iv s1 ⟨y, H1, I1, ry, q1⟩ => thn (ho.run pins s1 σ H1 _ I1 q1) fun u s2 ⟨x, H2, I2, rx, a, b, k, ys, ex, ey, D, g, q2⟩ => ?_
  subst ex ey
  obtain rfl : u = Value.ref a := rx
  obtain rfl : iv = Value.ref b := ry
  exact nd_in hu I2 D g fun s3 I3 => ⟨.bl (nAt ys k).isSome, H2, I3, rfl, q2⟩
theorem ps_nput (hu : X.A.units + 9 < cLine) (ho : PE X o td) (hi : PE X i ty) (hv : PE X value tv) (hs : swapsWith value (some (.Subscript o i pos')) pos.line X.env = pure false) :
    PS X (.Assign [.Subscript o i pos'] value pos) (sNPut X.prog X.w td ty tv) := by
  refine ⟨fun pins s σ H D I h => ?_⟩
  refine wpAny_Assign_Subscript (thn (hv.run pins s σ H _ I h) fun r s1 ⟨v, H1, I1, rv, q1⟩ => thn (ho.run pins s1 σ H1 _ I1 q1) fun u s2 ⟨x, H2, I2, rx, q2⟩ => thn (hi.run pins s2 σ H2 _ I2 q2) fun iv s3 ⟨y, H3, I3, ry, a, b, k, ys, c, ev, ex, ey, DD, g, l, q3⟩ => ?_) hs
  subst ex ey ev
  obtain rfl : u = Value.ref a := rx
  obtain rfl : iv = Value.ref b := ry
  obtain rfl : r = Value.ref c := rv
  exact nd_setItem hu I3 DD g l fun s4 I4 => ⟨σ, _, I4, q3⟩
theorem pe_nget1 (hu : X.A.units + 9 < cLine) (ho : PE X o td) (he : PE X e ty) (m : M1 X o "get" apos e cpos) : PE X (.Call (.Attribute o "get" apos) [e] [] cpos) (tNGet1 X.prog X.w td ty) := by
  refine ⟨fun pins s σ H Q I h => ?_⟩
  refine wpAny_Call_method m.base m.few m.line PySem.F.plainAttrs_dict PySem.F.slot_dict_get PySem.F.type_dict_get (thn (ho.run pins s σ H _ I h) fun u s1 ⟨x, H1, I1, rx, a, ys, ex, D, q1⟩ => ?_)
  subst ex
  obtain rfl : u = Value.ref a := rx
  have dd := nd_of I1.hok D
  refine ⟨dd.typeIs, fun b q => ?_, ?_⟩
  · cases q
    obtain ⟨ob, _, _, h1, h2, _⟩ := dd
    exact ⟨ob, h1, h2.2.1⟩
  rw [m.trees]
  refine Calls.callWith_builtin rfl (Calls.evalArgs_plain (Calls.spliced_cons (thn (he.run pins s1 σ H1 _ I1 q1) fun iv s2 ⟨y, H2, I2, ry, b, k, ey, D2, g, q2⟩ => Calls.spliced_nil ?_)))
  subst ey
  obtain rfl : iv = Value.ref b := ry
  refine nd_get1 hu I2 D2 g fun s3 I3 => ⟨_, H2, I3, ?_, q2⟩
  cases nAt ys k <;> rfl
theorem nd_empty {P : Program} {w : World} {H : Hp} (h : Heap) : ObjOk P w H (h.push { cls := .type "dict", data := .dict #[] }) h.objs.size (dN P w h.objs.size []) := dN_ok (Heap.DictOfH.new h)
theorem Dict_pairsN {prog : Program} {w : World} {A : Around} {E : Value → Shared → Prop} {s : Shared} {env : Env} {keys : List (Option Expr)} {values : List Expr} {pairs : List (Sem Value × Sem Value)} {Q : Value → Shared → Prop} (hu : (nestedKind prog w).room A)
    (hshape : (evalEachOpt keys env).zip ((evalEach values env).map fun v => do let x ← v; standAt pos; pure x) = pairs.map fun p => (some p.1, p.2)) (h0 : pairs ≠ []) (hlen : pairs.length ≤ 15)
    (h : wpAny (model prog w) A (evalPairs pairs) (fun vs s₁ => ∃ ps, CarriesH (nestedKind prog w) s₁.heap vs ps ∧ s₁.heap.DictOfH (nestedKind prog w) s.heap.objs.size [] ∧
      ∀ h' tk, h'.DictOfH (nestedKind prog w) s.heap.objs.size (storedAllH [] ps) → Heap.SameBut s.heap.objs.size s₁.heap h' → Q (.ref s.heap.objs.size) { s₁ with heap := h', toks := tk }) E
      { s with heap := s.heap.push { cls := .type "dict", data := .dict #[] } }) :
    wpAny (model prog w) A (eval (.Dict keys values pos) env) Q E s := by
  rw [arm_eval_Dict, hshape, dictDisplay_pairs pairs h0 (by omega)]
  exact wpAny_bind (wpAny_standAt (wpAny_bind (wpAny_subDictH (knd := nestedKind prog w) (Q := fun d s' => wpAny (model prog w) A (pure (Value.ref d)) Q E s') hu hlen
    (wpAny_mono h (fun vs s₁ h₁ => by obtain ⟨ps, hc, hm, hq⟩ := h₁; exact ⟨ps, hc, hm, fun h' tk a b => wpAny_pure (hq h' tk a b)⟩) fun _ _ e => e))))
theorem pe_ndisp (hu : X.A.units + 9 < cLine) (hk : PE X e tk) (hv : PE X value tv) : PE X (.Dict [some e] [value] pos) (tNDisp X.prog X.w tk tv) := by
  refine ⟨fun pins s σ H Q I q => ?_⟩
  have hn := I.hok.fresh (Nat.le_refl s.heap.objs.size)
  have I1 := I.laid (a := s.heap.objs.size) (o := dN X.prog X.w s.heap.objs.size []) (h' := s.heap.push { cls := .type "dict", data := .dict #[] }) (t' := s.toks) (fun _ _ q => Heap.get?_push_of_some _ q) (Nat.le_refl _) (nd_empty s.heap)
  have hnsm : (s.heap.objs.size == sysModules) = false := beq_eq_false_iff_ne.mpr (Ne.symm (Nat.ne_of_lt I.big))
  refine Dict_pairsN (pairs := pairTrees [some e] [value] X.env pos) (by show X.A.units + 8 < cLine; omega) (zip_pairTrees [some e] [value] X.env pos rfl rfl) (by intro z; cases z) (by show 1 ≤ 15; decide) ?_
  refine pairTrees_cons_walk (thn (hk.run pins _ σ _ _ I1 (q _ hn)) fun u s1 ⟨x, H1, J1, rx, q1⟩ => thn (hv.run pins s1 σ H1 _ J1 q1) fun w2 s2 ⟨y, H2, I2, ry, b, c, k, ex, ey, hp, g, q2⟩ => ?_)
  subst ex ey
  obtain rfl : u = Value.ref b := rx
  obtain rfl : w2 = Value.ref c := ry
  refine pairTrees_nil_walk ?_
  have D0 : NDict X.prog X.w H2 s.heap.objs.size [] := ⟨hp, Nat.zero_le _, hnsm, fun y hy => nomatch hy⟩
  refine ⟨[(k, b, .ref c)], ⟨rfl, rfl, nk_is I2.hok g, trivial⟩, nd_of I2.hok D0, fun h' tk' dd' hs => ?_⟩
  have he : ∃ q, h'.get? s.heap.objs.size = some q := let ⟨q, _, _, hq, _⟩ := dd'; ⟨q, hq⟩
  have DP := D0.put (v := c) g (by show 0 < sizeLine; decide)
  have eP : nPut [] k b c = [(k, b, c)] := rfl
  rw [eP] at DP
  have d2 : h'.DictOfH (nestedKind X.prog X.w) s.heap.objs.size (nL [(k, b, c)]) := dd'
  exact ⟨.ref s.heap.objs.size, _, d_write I2 (by rw [hp]; exact True.intro) hs he (dN_ok d2), rfl, q2 DP⟩
end
end KX
end L2
namespace L2
namespace KX
open PySem PySem.W PySem.Spec PyProof.Rows

/-! ### enumerate of a tuple, of a text -/
section
open Sem (wp)
open AutoSeq1 (wpAny_loadPart')
theorem meets_enum_newT (l : Addr) (items : Array Value) (n : Nat) (dct : Option Addr) (sl : Array (Option Value)) :
    Meets (Builtin.«enumerate.__new__» ⟨[.type "enumerate", .ref l], []⟩) (fun _ R s => s.heap.get? l = some { cls := .type "tuple", dict := dct, data := .seq items n, slots := sl } ∧
      R (.ok (.ret (.ref (s.heap.push { cls := .type "tuple_iterator", data := .fields #[.ref l, .int 0 0] }).objs.size)))
        { s with heap := (s.heap.push { cls := .type "tuple_iterator", data := .fields #[.ref l, .int 0 0] }).push { cls := .type "enumerate", data := .fields #[.none, .bool false, .ref s.heap.objs.size, rawInt 0, .none, .none] } }) :=
  .of_wp fun prog w A R s h => by
    obtain ⟨hp, g, d, tk, os⟩ := s; obtain ⟨hl, h⟩ := h
    have hsub := sub_enumerate
    have hL : Heap.IsTuple (Shared.heap ⟨hp, g, d, tk, os⟩) l items := ⟨_, hl, rfl, n, rfl⟩
    wp_walk using wpAny_loadPart' hl
    refine wpAny_stack_any fun st => wpAny_pure ?_
    split
    · rename_i c _ _ _ _ _
      cases (c == Value.type "enumerate")
      · wp_walk using wpAny_loadPart' hl, wpAny_pyIter_tuple hL
        exact ⟨_, rfl, h⟩
      · wp_walk using wpAny_loadPart' hl, wpAny_pyIter_tuple hL
        exact ⟨_, rfl, h⟩
    · wp_walk using wpAny_loadPart' hl, wpAny_pyIter_tuple hL
      exact ⟨_, rfl, h⟩
end
theorem call_enum_tuple {prog : Program} {w : World} {A : Around} {E : Value → Shared → Prop} {s : Shared} {l : Addr} {items : Array Value} {Q : Value → Shared → Prop} (hL : s.heap.IsTuple l items)
    (h : ∀ h', IsEnum h' (s.heap.objs.size + 1) s.heap.objs.size 0 .none → h'.IsTupleIter s.heap.objs.size l 0 → h'.objs.size = s.heap.objs.size + 2 →
      (∀ b o, s.heap.get? b = some o → h'.get? b = some o) → Q (.ref (s.heap.objs.size + 1)) { s with heap := h' }) :
    wpAny (model prog w) A (call (.type "enumerate") [.ref l]) Q E s := by
  obtain ⟨⟨c, dct, dt, sl⟩, hl, hc, n, hd⟩ := hL
  replace hc : c = .type "tuple" := hc
  replace hd : dt = .seq items n := hd
  subst hc hd
  refine callType_new PySem.F.called_enumerate (by decide) (PySem.F.typeCall_enumerate_1 _) (PySem.F.newCall_enumerate_1 _) (fun obj => PySem.F.args_object_init_2 obj _) PySem.F.entry_enumerate_new
    (meets_enum_newT l items n dct sl) ⟨hl, ?_⟩
  have hz : (s.heap.push { cls := .type "tuple_iterator", data := .fields #[.ref l, .int 0 0] }).objs.size = s.heap.objs.size + 1 := Heap.size_push ..
  show _ ∧ _
  rw [hz]
  have he : IsEnum ((s.heap.push { cls := .type "tuple_iterator", data := .fields #[.ref l, .int 0 0] }).push
      { cls := .type "enumerate", data := .fields #[.none, .bool false, .ref s.heap.objs.size, rawInt 0, .none, .none] }) (s.heap.objs.size + 1) s.heap.objs.size 0 .none := by
    have := Heap.get?_push_size (s.heap.push { cls := .type "tuple_iterator", data := .fields #[.ref l, .int 0 0] })
      (o := { cls := .type "enumerate", data := .fields #[.none, .bool false, .ref s.heap.objs.size, rawInt 0, .none, .none] }) rfl
    rw [hz] at this; exact this
  refine ⟨⟨_, he, rfl⟩, h _ he ⟨_, Heap.get?_push_of_some _ (Heap.get?_push_size _ rfl), rfl, rfl⟩ (by rw [Heap.size_push, hz]) fun b o x => Heap.get?_push_of_some _ (Heap.get?_push_of_some _ x)⟩

/-- the tuple at a, each item in a new pair -/
def IteT (K : PySem.W.Frag) (a : Addr) : It :=
  ⟨fun i H => ∃ (xs : List V) (x : V), SqT K H a xs ∧ xs[i]? = some x, fun i H v H' => ∃ T x, v = .ref T ∧ H T = none ∧ H' = upd H T (.tup [.int (i : Nat), x]) ∧ ∀ xs, SqT K H a xs → xs[i]? = some x, fun i H => ∃ xs : List V, SqT K H a xs ∧ xs.length = i⟩
theorem tupDraws {prog : Program} {w : World} {A : Around} (hh : A.handled = none) {it a : Addr} (hne : a ≠ it) (items : Array Value) : Draws prog w A.in1 it [it, a] items.size (fun i v => items[i]? = some v) (fun i h => h.IsTupleIter it a i ∧ h.IsTuple a items) :=
  Draws.tuple (A := A.in1) hh it a hne items
theorem turn_enumT {P : Program} {w : World} {K : PySem.W.Frag} {elts : List Expr} {kk : Nat} {tpos : Pos} (a e it : Addr) (hai : a ≠ it) (hae : a ≠ e) :
    Turn P w K (.Tuple elts kk tpos) (IteT K a) [e, it] e (fun i h => (∃ old, IsEnum h e it ((i : Nat) : Int) old) ∧ h.IsTupleIter it a i ∧ e ≠ it) where
  mem := by simp
  obj := fun i h st b hb => by
    obtain ⟨⟨old, he⟩, ⟨o, ho, hc, hd⟩, _⟩ := st
    have e' : b = e ∨ b = it := by simpa using hb
    rcases e' with z | z
    · rw [z]; exact ⟨_, he, fun v q => nomatch q⟩
    · rw [z]; exact ⟨o, ho, fun v q => by rw [hd] at q; cases q⟩
  keep := fun i h h' st k => let ⟨⟨old, he⟩, hi, hne⟩ := st; ⟨⟨old, k e (by simp) _ he⟩, hi.at fun o q => k it (by simp) o q, hne⟩
  item := by
    intro X hP hw hK hc i pins s σ H E I hf st hg
    subst hP hw hK
    obtain ⟨⟨old, he⟩, hit, hne⟩ := st
    obtain ⟨xs, x, hq, hx⟩ := hg
    obtain ⟨its, rv, p, hz⟩ := I.tuple hq
    obtain ⟨u, hu, ru⟩ := rv.get hx
    have hel : e < s.heap.objs.size := Heap.lt_size he
    have hil : it < s.heap.objs.size := by obtain ⟨_, q, _⟩ := hit; exact Heap.lt_size q
    have hlt : i < its.toArray.size := by
      have := (List.getElem?_eq_some_iff.mp hu).1
      simpa using this
    refine wpAny_pyNext_enum_itemC (tupDraws (I.ok.hd hc) hai its.toArray) he ⟨hit, (show s.heap.IsTuple a its.toArray from p)⟩ hlt hne (by simp [hne, Ne.symm hae]) fun x' h' tk hx' ho hit' hT hsz hk => ?_
    have eu : x' = u := by
      have q : its[i]? = some x' := by simpa using hx'
      rw [hu] at q; exact (Option.some.inj q).symm
    subst eu
    refine ⟨_, rfl, wpAny_letOwnedTupleGo_enum (s := { s with heap := h', toks := tk + 1 }) ho fun h'' he' sb => ?_⟩
    have hT2 : h''.get? s.heap.objs.size = some { cls := .type "tuple", data := .seq #[.int i tk, x'] } := (sb.2 _ (Nat.ne_of_gt hel)).trans hT
    have new : ObjOk X.prog X.w (upd H s.heap.objs.size (.tup [.int (i : Nat), x])) h'' s.heap.objs.size (.tup [.int (i : Nat), x]) :=
      ⟨by show 2 ≤ sizeLine; decide, [.int i tk, x'], .cons ⟨_, rfl⟩ (.cons ru .nil), ⟨_, hT2, rfl, _, rfl⟩⟩
    have I1 : Inv X pins σ (upd H s.heap.objs.size (.tup [.int (i : Nat), x])) { s with heap := h'', toks := tk + 1 } :=
      I.turnedNew (ch := [e, it]) (fun b ob hb q => (sb.2 b (fun z => hb (by simp [z]))).trans (hk b ob (fun z => hb (by simp [z])) (fun z => hb (by simp [z])) q)) hf (Nat.le_refl _) new
    refine ⟨.ref s.heap.objs.size, _, I1, rfl, ⟨_, x, rfl, I.hok.fresh (Nat.le_refl _), rfl, fun ys hy => by rw [I.tuple_inj hy hq]; exact hx⟩, ⟨⟨x', ?_⟩, hit'.1.at fun o q => (sb.2 it (Ne.symm hne)).trans q, hne⟩, fun b hb => ?_⟩
    · have e1 : ((i + 1 : Nat) : Int) = (i : Int) + 1 := by omega
      rw [e1]; exact he'
    · have hb' : b < s.heap.objs.size := by
        have e' : b = e ∨ b = it := by simpa using hb
        rcases e' with z | z
        · rw [z]; exact hel
        · rw [z]; exact hil
      rw [upd_ne (Nat.ne_of_lt hb')]
      exact (hf b hb).1
  done := by
    intro X hP hw hK hc i pins s σ H E I hf st hg
    subst hP hw hK
    obtain ⟨⟨old, he⟩, hit, hne⟩ := st
    obtain ⟨xs, hq, hx⟩ := hg
    obtain ⟨its, rv, p, hz⟩ := I.tuple hq
    obtain ⟨f0, f1, f2, f3, f4, f5⟩ := hf it (by simp)
    have hn : its.toArray.size = i := by
      have := rv.length
      simp
      omega
    refine wpAny_pyNext_enum_endD (tupDraws (I.ok.hd hc) hai its.toArray) he ⟨by rw [hn]; exact hit, (show s.heap.IsTuple a its.toArray from p)⟩ fun h' eb => ⟨rfl, I.turned (t' := s.toks) (fun b o hb q => eb b o hb q) f0 f1 f3 f4 f5⟩
  self := fun A i s Q E st h => let ⟨⟨_, he⟩, _⟩ := st; wpAny_pyIter_enum he h
def iEnumT (K : PySem.W.Frag) (ta : TA) : TI := fun σ H R => ta σ H fun vs H1 => ∃ a xs, vs = [.ref a] ∧ SqT K H1 a xs ∧ R (IteT K a) H1
theorem pi_enumT {X : Cx} {e : Expr} {ta : TA} {p pos tpos : Pos} {elts : List Expr} {kk : Nat} (hg : Gl X "enumerate") (hm : X.mg "enumerate" = none) (ha : PA X [e] ta) (hs : starEach [e] X.env = [(false, eval e X.env)] := by rfl) :
    PI X (.Tuple elts kk tpos) (.Call (.Name "enumerate" p) [e] [] pos) (iEnumT X.K ta) := by
  refine ⟨fun pins s σ H R I h => ?_⟩
  refine Call_ (ld_blt I hg hm boot_enumerate (PyProof.Rows.callWith_type1 (thn (ha.run pos pins s σ H _ I h) fun us s1 ⟨vs, H1, I1, r1, q1⟩ => ?_) hs rfl))
  obtain ⟨a, xs, ex, hq, q⟩ := q1
  subst ex
  obtain ⟨u, rfl, ru⟩ := vals1 r1
  obtain rfl : u = Value.ref a := ru
  obtain ⟨its, rv, p', hz⟩ := I1.tuple hq
  have la : a < s1.heap.objs.size := p'.lt
  refine call_enum_tuple (show s1.heap.IsTuple a its.toArray from p') fun h' he hit hsz hk => wpAny_pyIter_enum he ?_
  have I2 : Inv X pins σ H1 { s1 with heap := h' } := I1.kept (t' := s1.toks) hk
  refine ⟨s1.heap.objs.size + 1, [s1.heap.objs.size + 1, s1.heap.objs.size], _, _, H1, rfl, I2, turn_enumT a (s1.heap.objs.size + 1) s1.heap.objs.size (Nat.ne_of_lt la) (Nat.ne_of_lt (Nat.lt_succ_of_lt la)), ⟨⟨.none, he⟩, hit, Nat.succ_ne_self _⟩, fun b hb => ?_, q⟩
  have e' : b = s1.heap.objs.size + 1 ∨ b = s1.heap.objs.size := by simpa using hb
  have hle : s1.heap.objs.size ≤ b := by
    rcases e' with z | z
    · rw [z]; exact Nat.le_add_right _ _
    · rw [z]; exact Nat.le_refl _
  exact I1.fpOk hle (I1.hok.fresh hle)
theorem walk_enumT {K : PySem.W.Frag} {a : Addr} {xs : List V} : Walk (IteT K a) xs.length (fun H => SqT K H a xs) (YPair (fun i => some (.int (i : Nat))) (fun i => xs[i]?)) := by
  refine ⟨fun i _ hi q => ⟨xs, xs[i], q, by simp [hi]⟩, fun _ q => ⟨xs, q, rfl⟩, fun i H v H' _ q y => ?_⟩
  obtain ⟨T, x, h1, h2, h3, h4⟩ := y
  exact ⟨T, .int (i : Nat), x, h1, h2, h3, rfl, h4 xs q⟩

/-- a text, each sign in a new pair -/
def IteS (x : Str) : It :=
  ⟨fun i _ => i < x.cps.size, fun i H v H' => ∃ T c, v = .ref T ∧ H T = none ∧ H' = upd H T (.tup [.int (i : Nat), .str ⟨#[c]⟩]) ∧ x.cps[i]? = some c, fun i _ => x.cps.size = i⟩
theorem strDraws {prog : Program} {w : World} {A : Around} (hh : A.handled = none) (it : Addr) (x : Str) (t : Tok) : Draws prog w A.in1 it [it] x.cps.size (fun i v => ∃ c u, x.cps[i]? = some c ∧ v = .str ⟨#[c]⟩ u) (fun i h => h.IsStrIter it (strIterType x) x t i) :=
  Draws.text (A := A.in1) hh it x t
theorem turn_enumS {P : Program} {w : World} {K : PySem.W.Frag} {elts : List Expr} {kk : Nat} {tpos : Pos} (x : Str) (t : Tok) (e it : Addr) :
    Turn P w K (.Tuple elts kk tpos) (IteS x) [e, it] e (fun i h => (∃ old, IsEnum h e it ((i : Nat) : Int) old) ∧ h.IsStrIter it (strIterType x) x t i ∧ e ≠ it) where
  mem := by simp
  obj := fun i h st b hb => by
    obtain ⟨⟨old, he⟩, ⟨o, ho, hc, hd⟩, _⟩ := st
    have e' : b = e ∨ b = it := by simpa using hb
    rcases e' with z | z
    · rw [z]; exact ⟨_, he, fun v q => nomatch q⟩
    · rw [z]; exact ⟨o, ho, fun v q => by rw [hd] at q; cases q⟩
  keep := fun i h h' st k => let ⟨⟨old, he⟩, hi, hne⟩ := st; ⟨⟨old, k e (by simp) _ he⟩, (let ⟨o, ho, hr⟩ := hi; ⟨o, k it (by simp) o ho, hr⟩), hne⟩
  item := by
    intro X hP hw hK hc i pins s σ H E I hf st hg
    subst hP hw hK
    obtain ⟨⟨old, he⟩, hit, hne⟩ := st
    have hlt : i < x.cps.size := hg
    have hel : e < s.heap.objs.size := Heap.lt_size he
    have hil : it < s.heap.objs.size := by obtain ⟨_, q, _⟩ := hit; exact Heap.lt_size q
    refine wpAny_pyNext_enum_itemC (strDraws (I.ok.hd hc) it x t) he hit hlt hne (by simp [hne]) fun x' h' tk hx' ho hit' hT hsz hk => ?_
    obtain ⟨c, u, hcx, rfl⟩ := hx'
    refine ⟨_, rfl, wpAny_letOwnedTupleGo_enum (s := { s with heap := h', toks := tk + 1 }) ho fun h'' he' sb => ?_⟩
    have hT2 : h''.get? s.heap.objs.size = some { cls := .type "tuple", data := .seq #[.int i tk, .str ⟨#[c]⟩ u] } := (sb.2 _ (Nat.ne_of_gt hel)).trans hT
    have new : ObjOk X.prog X.w (upd H s.heap.objs.size (.tup [.int (i : Nat), .str ⟨#[c]⟩])) h'' s.heap.objs.size (.tup [.int (i : Nat), .str ⟨#[c]⟩]) :=
      ⟨by show 2 ≤ sizeLine; decide, [.int i tk, .str ⟨#[c]⟩ u], .cons ⟨_, rfl⟩ (.cons ⟨_, rfl⟩ .nil), ⟨_, hT2, rfl, _, rfl⟩⟩
    have I1 : Inv X pins σ (upd H s.heap.objs.size (.tup [.int (i : Nat), .str ⟨#[c]⟩])) { s with heap := h'', toks := tk + 1 } :=
      I.turnedNew (ch := [e, it]) (fun b ob hb q => (sb.2 b (fun z => hb (by simp [z]))).trans (hk b ob (fun z => hb (by simp [z])) (fun z => hb (by simp [z])) q)) hf (Nat.le_refl _) new
    refine ⟨.ref s.heap.objs.size, _, I1, rfl, ⟨_, c, rfl, I.hok.fresh (Nat.le_refl _), rfl, hcx⟩, ⟨⟨.str ⟨#[c]⟩ u, ?_⟩, (let ⟨o, ho2, hr⟩ := hit'; ⟨o, (sb.2 it (Ne.symm hne)).trans ho2, hr⟩), hne⟩, fun b hb => ?_⟩
    · have e1 : ((i + 1 : Nat) : Int) = (i : Int) + 1 := by omega
      rw [e1]; exact he'
    · have hb' : b < s.heap.objs.size := by
        have e' : b = e ∨ b = it := by simpa using hb
        rcases e' with z | z
        · rw [z]; exact hel
        · rw [z]; exact hil
      rw [upd_ne (Nat.ne_of_lt hb')]
      exact (hf b hb).1
  done := by
    intro X hP hw hK hc i pins s σ H E I hf st hg
    subst hP hw hK
    obtain ⟨⟨old, he⟩, hit, hne⟩ := st
    have hn : x.cps.size = i := hg
    obtain ⟨f0, f1, f2, f3, f4, f5⟩ := hf it (by simp)
    exact wpAny_pyNext_enum_endD (strDraws (I.ok.hd hc) it x t) he (by rw [hn]; exact hit) fun h' eb => ⟨rfl, I.turned (t' := s.toks) (fun b o hb q => eb b o hb q) f0 f1 f3 f4 f5⟩
  self := fun A i s Q E st h => let ⟨⟨_, he⟩, _⟩ := st; wpAny_pyIter_enum he h
def iEnumS (ta : TA) : TI := fun σ H R => ta σ H fun vs H1 => ∃ x, vs = [.str x] ∧ R (IteS x) H1
theorem pi_enumS {X : Cx} {e : Expr} {ta : TA} {p pos tpos : Pos} {elts : List Expr} {kk : Nat} (hg : Gl X "enumerate") (hm : X.mg "enumerate" = none) (ha : PA X [e] ta) (hs : starEach [e] X.env = [(false, eval e X.env)] := by rfl) :
    PI X (.Tuple elts kk tpos) (.Call (.Name "enumerate" p) [e] [] pos) (iEnumS ta) := by
  refine ⟨fun pins s σ H R I h => ?_⟩
  refine Call_ (ld_blt I hg hm boot_enumerate (PyProof.Rows.callWith_type1 (thn (ha.run pos pins s σ H _ I h) fun us s1 ⟨vs, H1, I1, r1, q1⟩ => ?_) hs rfl))
  obtain ⟨x, ex, q⟩ := q1
  subst ex
  obtain ⟨u, rfl, ru⟩ := vals1 r1
  obtain ⟨t, rfl⟩ := ru
  refine call_enumerate_str fun h' he hit hsz hk => wpAny_pyIter_enum he ?_
  have I2 : Inv X pins σ H1 { s1 with heap := h' } := I1.kept (t' := s1.toks) hk
  refine ⟨s1.heap.objs.size + 1, [s1.heap.objs.size + 1, s1.heap.objs.size], _, _, H1, rfl, I2, turn_enumS x t (s1.heap.objs.size + 1) s1.heap.objs.size, ⟨⟨.none, he⟩, hit, Nat.succ_ne_self _⟩, fun b hb => ?_, q⟩
  have e' : b = s1.heap.objs.size + 1 ∨ b = s1.heap.objs.size := by simpa using hb
  have hle : s1.heap.objs.size ≤ b := by
    rcases e' with z | z
    · rw [z]; exact Nat.le_add_right _ _
    · rw [z]; exact Nat.le_refl _
  exact I1.fpOk hle (I1.hok.fresh hle)
theorem walk_enumS {x : Str} : Walk (IteS x) x.cps.size (fun _ => True) (fun i H v H' => ∃ T c, v = .ref T ∧ H T = none ∧ H' = upd H T (.tup [.int (i : Nat), .str ⟨#[c]⟩]) ∧ x.cps[i]? = some c) :=
  ⟨fun i _ hi _ => hi, fun _ _ => rfl, fun i H v H' _ _ y => y⟩

/-! ### zip of a list and a text -/
def ItzS (K : PySem.W.Frag) (a : Addr) (z : Str) : It :=
  ⟨fun i H => ∃ (xs : List V) (x : V), SqL K H a xs ∧ xs[i]? = some x ∧ i < z.cps.size,
    fun i H v H' => ∃ T x c, v = .ref T ∧ H T = none ∧ H' = upd H T (.tup [x, .str ⟨#[c]⟩]) ∧ (∀ xs, SqL K H a xs → xs[i]? = some x) ∧ z.cps[i]? = some c,
    fun i H => ∃ xs : List V, SqL K H a xs ∧ i ≤ xs.length ∧ i = z.cps.size⟩
theorem turn_zipS {P : Program} {w : World} {K : PySem.W.Frag} {elts : List Expr} {kk : Nat} {tpos : Pos} {a z TI TO i1 i2 : Addr} (y : Str) (t : Tok) (S : ZipSep2 z TI TO i1 i2 [i1, a] [i2]) (hai : a ≠ i1) :
    Turn P w K (.Tuple elts kk tpos) (ItzS K a y) [z, TI, TO, i1, i2] z (fun i h => IsZip h z TI TO .none ∧ IsTupOf2 h TI (.ref i1) (.ref i2) ∧ (∃ x y, IsTupOf2 h TO x y) ∧ h.IsListIter i1 a i ∧ h.IsStrIter i2 (strIterType y) y t i) where
  mem := by simp
  obj := fun i h st c hc => by
    obtain ⟨hz, hTI, ⟨x, y, hTO⟩, ⟨o1, e1, _, d1⟩, ⟨o2, e2, _, d2⟩⟩ := st
    have e' : c = z ∨ c = TI ∨ c = TO ∨ c = i1 ∨ c = i2 := by simpa using hc
    rcases e' with q | q | q | q | q
    · rw [q]; exact ⟨_, hz, fun v q => nomatch q⟩
    · rw [q]; exact ⟨_, hTI, fun v q => nomatch q⟩
    · rw [q]; exact ⟨_, hTO, fun v q => nomatch q⟩
    · rw [q]; exact ⟨o1, e1, fun v q => by rw [d1] at q; cases q⟩
    · rw [q]; exact ⟨o2, e2, fun v q => by rw [d2] at q; cases q⟩
  keep := fun i h h' st k => by
    obtain ⟨hz, hTI, ⟨x, y, hTO⟩, h1, ⟨o2, e2, r2⟩⟩ := st
    exact ⟨k z (by simp) _ hz, k TI (by simp) _ hTI, ⟨x, y, k TO (by simp) _ hTO⟩, h1.at fun o q => k i1 (by simp) o q, ⟨o2, k i2 (by simp) o2 e2, r2⟩⟩
  item := by
    intro X hP hw hK hc i pins s σ H E I hf st hg
    subst hP hw hK
    obtain ⟨hz, hTI, ⟨x0, y0, hTO⟩, h1, h2⟩ := st
    obtain ⟨xs, x, hqx, hx, hlt2⟩ := hg
    obtain ⟨its, rv, p, _⟩ := I.list hqx
    obtain ⟨u, hu, ru⟩ := rv.get hx
    have hzl : z < s.heap.objs.size := Heap.lt_size hz
    have hlt1 : i < its.toArray.size := by
      have := (List.getElem?_eq_some_iff.mp hu).1
      simpa using this
    refine wpAny_pyNext_zipD2_item S (Draws.list (A := X.A.in1) (I.ok.hd hc) i1 a hai its.toArray) (strDraws (I.ok.hd hc) i2 y t) hz hTI hTO ⟨h1, p.isList⟩ h2 hlt1 hlt2 fun x1 x2 h' tk hx1 hx2 z' TO' h1' h2' hT hsz hk => ?_
    have eu : x1 = u := by
      have q : its[i]? = some x1 := by simpa using hx1
      rw [hu] at q; exact (Option.some.inj q).symm
    subst eu
    obtain ⟨c, tc, hcx, rfl⟩ := hx2
    refine ⟨_, rfl, wpAny_letOwnedTupleGo_zip (s := { s with heap := h', toks := tk }) z' fun h'' z'' sb => ?_⟩
    have hT2 : h''.get? s.heap.objs.size = some { cls := .type "tuple", data := .seq #[x1, .str ⟨#[c]⟩ tc] } := (sb.2 _ (Nat.ne_of_gt hzl)).trans hT
    have new : ObjOk X.prog X.w (upd H s.heap.objs.size (.tup [x, .str ⟨#[c]⟩])) h'' s.heap.objs.size (.tup [x, .str ⟨#[c]⟩]) :=
      ⟨by show 2 ≤ sizeLine; decide, [x1, .str ⟨#[c]⟩ tc], .cons ru (.cons ⟨_, rfl⟩ .nil), ⟨_, hT2, rfl, _, rfl⟩⟩
    have I1 : Inv X pins σ (upd H s.heap.objs.size (.tup [x, .str ⟨#[c]⟩])) { s with heap := h'', toks := tk } :=
      I.turnedNew (t' := tk) (ch := [z, TI, TO, i1, i2]) (fun c o hb q => (sb.2 c (fun q' => hb (by simp [q']))).trans (hk c o (fun q' => hb (by simp [q'])) (fun q' => hb (by simp [q'])) (fun q' => hb (by simp [q'])) (fun q' => hb (by simp [q'])) q)) hf (Nat.le_refl _) new
    refine ⟨.ref s.heap.objs.size, _, I1, rfl, ⟨_, x, c, rfl, I.hok.fresh (Nat.le_refl _), rfl, fun l hl => by rw [I.list_inj hl hqx]; exact hx, hcx⟩, ⟨z'', ?_, ⟨x1, .str ⟨#[c]⟩ tc, ?_⟩, ?_, ?_⟩, fun c hcm => ?_⟩
    · exact (sb.2 _ S.TIz).trans (hk _ _ S.TIz S.TITO S.TIi1 S.TIi2 hTI)
    · exact (sb.2 _ S.TOz).trans TO'
    · exact h1'.1.at fun o q => (sb.2 _ (Ne.symm S.zi1)).trans q
    · obtain ⟨o, ho, hr⟩ := h2'
      exact ⟨o, (sb.2 _ (Ne.symm S.zi2)).trans ho, hr⟩
    · have hlt : c < s.heap.objs.size := by
        have e' : c = z ∨ c = TI ∨ c = TO ∨ c = i1 ∨ c = i2 := by simpa using hcm
        rcases e' with q | q | q | q | q
        · rw [q]; exact hzl
        · rw [q]; exact Heap.lt_size hTI
        · rw [q]; exact Heap.lt_size hTO
        · rw [q]; obtain ⟨_, e1, _⟩ := h1; exact Heap.lt_size e1
        · rw [q]; obtain ⟨_, e2, _⟩ := h2; exact Heap.lt_size e2
      rw [upd_ne (Nat.ne_of_lt hlt)]
      exact (hf c hcm).1
  done := by
    intro X hP hw hK hc i pins s σ H E I hf st hg
    subst hP hw hK
    obtain ⟨hz, hTI, ⟨x0, y0, hTO⟩, h1, h2⟩ := st
    obtain ⟨xs, hqx, hle, hend⟩ := hg
    obtain ⟨its, rv, p, _⟩ := I.list hqx
    have l1 := rv.length
    exact wpAny_pyNext_zipD2_end S (Draws.list (A := X.A.in1) (I.ok.hd hc) i1 a hai its.toArray) (strDraws (I.ok.hd hc) i2 y t) hz hTI hTO ⟨h1, p.isList⟩ h2 (by simp; omega) (by omega) (.inr hend) fun h' tk hk => ⟨rfl, I.turnedL (t' := tk) (ch := [z, TI, TO, i1, i2]) (fun c o hb q =>
      hk c o (fun q' => hb (by simp [q'])) (fun q' => hb (by simp [q'])) (fun q' => hb (by simp [q'])) (fun q' => hb (by simp [q'])) q) hf⟩
  self := fun A i s Q E st h => wpAny_pyIter_zip st.1 h
def iZipS (K : PySem.W.Frag) (ta : TA) : TI := fun σ H R => ta σ H fun vs H1 => ∃ a xs z, vs = [.ref a, .str z] ∧ SqL K H1 a xs ∧ R (ItzS K a z) H1
theorem pi_zipS {X : Cx} {e e2 : Expr} {ta : TA} {p pos tpos : Pos} {elts : List Expr} {kk : Nat} (hg : Gl X "zip") (hm : X.mg "zip" = none) (ha : PA X [e, e2] ta)
    (hs : starEach [e, e2] X.env = (false, eval e X.env) :: starEach [e2] X.env := by rfl) (hpl : (backTo pos (starEach [e2] X.env)).any (·.1) = false := by rfl) :
    PI X (.Tuple elts kk tpos) (.Call (.Name "zip" p) [e, e2] [] pos) (iZipS X.K ta) := by
  refine ⟨fun pins s σ H R I h => ?_⟩
  refine Call_ (ld_blt I hg hm PyProof.Rows.boot_zip (PyProof.Rows.callWith_type1 (thn (ha.run pos pins s σ H _ I h) fun us s1 ⟨vs, H1, I1, r1, q1⟩ => ?_) hs hpl))
  obtain ⟨a, xs, y, ex, hqx, q⟩ := q1
  subst ex
  obtain ⟨u1, u2, rfl, r1, r2⟩ := vals2 r1
  obtain rfl : u1 = Value.ref a := r1
  obtain ⟨t, rfl⟩ := r2
  obtain ⟨its, rv, p1, _⟩ := I1.list hqx
  have la : a < s1.heap.objs.size := p1.lt
  refine zip_begins2 (begins_list a its.toArray) (begins_text y t) p1.isList trivial fun h' hz hTI hTO h1 h2 hsz hk => wpAny_pyIter_zip hz ?_
  have I2 : Inv X pins σ H1 { s1 with heap := h' } := I1.kept (t' := s1.toks) hk
  refine ⟨s1.heap.objs.size + 4, [s1.heap.objs.size + 4, s1.heap.objs.size + 2, s1.heap.objs.size + 3, s1.heap.objs.size, s1.heap.objs.size + 1], _, _, H1, rfl, I2,
    turn_zipS y t (zip_sep2 (fp1 := [a]) (fp2 := []) (fun b hb => by rw [List.mem_singleton.mp hb]; exact la) (fun b hb => nomatch hb)) (Nat.ne_of_lt la), ⟨hz, hTI, ⟨_, _, hTO⟩, ⟨_, h1, rfl, rfl⟩, ⟨_, h2, rfl, rfl⟩⟩, fun c hcm => ?_, q⟩
  have e' : c = s1.heap.objs.size + 4 ∨ c = s1.heap.objs.size + 2 ∨ c = s1.heap.objs.size + 3 ∨ c = s1.heap.objs.size ∨ c = s1.heap.objs.size + 1 := by simpa using hcm
  have hle : s1.heap.objs.size ≤ c := by
    rcases e' with z | z | z | z | z
    · rw [z]; exact Nat.le_add_right _ _
    · rw [z]; exact Nat.le_add_right _ _
    · rw [z]; exact Nat.le_add_right _ _
    · rw [z]; exact Nat.le_refl _
    · rw [z]; exact Nat.le_add_right _ _
  exact I1.fpOk hle (I1.hok.fresh hle)
theorem walk_zipS {K : PySem.W.Frag} {a : Addr} {xs : List V} {z : Str} (hl : z.cps.size ≤ xs.length) : Walk (ItzS K a z) z.cps.size (fun H => SqL K H a xs)
    (fun i H v H' => ∃ T x c, v = .ref T ∧ H T = none ∧ H' = upd H T (.tup [x, .str ⟨#[c]⟩]) ∧ xs[i]? = some x ∧ z.cps[i]? = some c) := by
  refine ⟨fun i _ hi q => ⟨xs, xs[i]'(by omega), q, by simp, hi⟩, fun _ q => ⟨xs, q, hl, rfl⟩, fun i H v H' _ q y => ?_⟩
  obtain ⟨T, x, c, h1, h2, h3, h4, h5⟩ := y
  exact ⟨T, x, c, h1, h2, h3, h4 xs q, h5⟩
end KX
end L2
namespace L2
namespace KX
open PySem PySem.W PySem.Spec PyProof.Rows

/-! ### three comparisons in a chain -/
section
variable {X : Cx} {a b c d : Expr} {ta tb tc td : TE} {pos : Pos}
def tChain3 (r r' r'' : R2) (ta tb tc td : TE) : TE := fun σ H Q => ta σ H fun x H1 => tb σ H1 fun y H2 => r x y H2 fun z H3 => ∃ k, z = .bl k ∧
  (if k = true then tc σ H3 fun y' H4 => r' y y' H4 fun z' H5 => ∃ k', z' = .bl k' ∧ (if k' = true then td σ H5 fun w' H6 => r'' y' w' H6 Q else Q (.bl false) H5) else Q (.bl false) H3)
theorem pe_chain3 {op op' op'' : CmpOp} {r r' r'' : R2} (ho : OpR X (compareOp op) r) (ho' : OpR X (compareOp op') r') (ho'' : OpR X (compareOp op'') r'') (ha : PE X a ta) (hb : PE X b tb) (hc : PE X c tc) (hd : PE X d td)
    (hm : lastMarks [op, op', op''] [b, c, d] = false := by with_unfolding_all rfl) : PE X (.Compare a [op, op', op''] [b, c, d] pos) (tChain3 r r' r'' ta tb tc td) := by
  refine ⟨fun pins s σ H Q I h => ?_⟩
  refine Compare_chain (thn (ha.run pins s σ H _ I h) fun v s1 ⟨x, H1, I1, r1, q1⟩ => chain_link (thn (hb.run pins s1 σ H1 _ I1 q1) fun u s2 ⟨y, H2, I2, r2, q2⟩ =>
    thn (ho pins s2 σ H2 x y v u _ I2 r1 r2 q2) fun dd s3 ⟨z, H3, I3, r3, k, e, q3⟩ => ?_)) hm
  subst e
  cases r3
  refine wpAny_truthy_bool ?_
  cases k with
  | false => exact ite_ff ⟨.bl false, H3, I3, rfl, q3⟩
  | true =>
    refine ite_tt (chain_link (thn (hc.run pins s3 σ H3 _ I3 q3) fun u' s4 ⟨y', H4, I4, r4, q4⟩ => thn (ho' pins s4 σ H4 y y' u u' _ I4 r2 r4 q4) fun d' s5 ⟨z', H5, I5, r5, k', e', q5⟩ => ?_))
    subst e'
    cases r5
    refine wpAny_truthy_bool ?_
    cases k' with
    | false => exact ite_ff ⟨.bl false, H5, I5, rfl, q5⟩
    | true => exact ite_tt (chain_last (thn (hd.run pins s5 σ H5 _ I5 q5) fun w' s6 ⟨z6, H6, I6, r6, q6⟩ => ho'' pins s6 σ H6 y' z6 u' w' Q I6 r4 r6 q6))
end

/-! ### the sum of a tuple of ints -/
theorem sum_tup {prog : Program} {w : World} {A : Around} {E : Value → Shared → Prop} {s : Shared} {l : Addr} {its : List Value} {ns : List Int} {Q : Value → Shared → Prop} (hh : A.handled = none) (hl : s.heap.IsTuple l its.toArray) (hi : IntsAre its ns)
    (h : ∀ h' tk t', (∀ b o, s.heap.get? b = some o → h'.get? b = some o) → Q (.int ns.sum t') { s with heap := h', toks := tk }) : wpAny (model prog w) A (call (.builtin "sum") [.ref l]) Q E s := by
  obtain ⟨xs, e⟩ := hi.allInts.items
  have hn : numsOf (intItems xs).toList = ns := by rw [← e]; exact hi.numsOf
  rw [nums_intItems] at hn
  rw [e] at hl
  have hlt : l < s.heap.objs.size := by obtain ⟨_, e, _⟩ := hl; exact Heap.lt_size e
  refine call_sum_walkG (wpAny_pyIter_tuple hl ?_)
  refine ⟨_, _, _, _, _, _, numAt xs, rfl, Walks.tuple (A := A.in1) hh s.heap.objs.size l (Nat.ne_of_lt hlt) (intItems xs), ⟨⟨_, Heap.get?_push_size _ rfl, rfl, rfl⟩, hl.push _⟩, fun b hb => ?_, fun _ _ => intItems_at, fun h' tk t' hk => ?_⟩
  · show b < (s.heap.push _).objs.size
    rw [Heap.size_push]
    rcases List.mem_cons.mp hb with rfl | hb
    · exact Nat.lt_succ_self _
    · rcases List.mem_cons.mp hb with rfl | hb
      · exact Nat.lt_succ_of_lt hlt
      · cases hb
  · have q := h h' tk t' fun b o e => hk b o (fun hm => absurd (Heap.lt_size e) ((List.mem_singleton.mp hm) ▸ Nat.lt_irrefl _)) (Heap.get?_push_of_some _ e)
    have e2 : preSum (numAt xs) (intItems xs).size = ns.sum := by
      rw [preSum_eq, List.take_of_length_le (by simp [intItems]), hn]
    rw [e2]
    exact q
def rSumT (K : PySem.W.Frag) : List V → Hp → VK → Prop := fun vs H Q => ∃ (a : Addr) (ns : List Int), vs = [V.ref a] ∧ SqT K H a (ns.map V.int) ∧ Q (.int ns.sum) H
theorem cr_sumT {X : Cx} (hc : X.calm = true) : CallR X (.builtin "sum") (rSumT X.K) := by
  intro pins s σ H vs us Q I r h
  obtain ⟨a, ns, rfl, hs, q⟩ := h
  obtain ⟨its, rv, hl, _⟩ := I.tuple hs
  rw [Vals.ref1 r]
  exact sum_tup (I.ok.hd hc) (show s.heap.IsTuple a its.toArray from hl) rv.ints fun h' tk t' hk => ⟨.int _, H, I.kept hk, ⟨_, rfl⟩, q⟩

/-! ### the least and the greatest of triples (a number, two texts) -/
abbrev Tr := Int × Str × Str
def trD (t : Tr) : PyData := .tuple [.int t.1, .str t.2.1, .str t.2.2]
theorem alike_tr (a b : Tr) : PySem.W.alike (trD a) (trD b) = true := by simp [trD, PySem.W.alike, PySem.W.alikeAll]
theorem lt_tr {a b : Tr} : (dataLt (trD a) (trD b) = true → a.1 ≤ b.1) ∧ (dataLt (trD a) (trD b) = false → b.1 ≤ a.1) := by
  by_cases e : a.1 = b.1
  · exact ⟨fun _ => by omega, fun _ => by omega⟩
  · have q : dataLt (trD a) (trD b) = decide (a.1 < b.1) := by
      unfold trD
      rw [dataLt_tuple, dataLt_all_no (by simp [PySem.W.alike]) (by simp [PyData.eqv, e]), dataLt_int]
    rw [q]
    exact ⟨fun h => by have := of_decide_eq_true h; omega, fun h => by have := of_decide_eq_false h; omega⟩
theorem minD_tr : ∀ (ts : List Tr) (t : Tr), ∃ m, minD (trD t) (ts.map trD) = trD m ∧ ∀ t' ∈ t :: ts, m.1 ≤ t'.1
  | [], t => ⟨t, rfl, fun t' h => by rw [List.mem_singleton.mp h]; exact Int.le_refl _⟩
  | u :: ts, t => by
    have e : minD (trD t) ((u :: ts).map trD) = minD (if dataLt (trD u) (trD t) = true then trD u else trD t) (ts.map trD) := rfl
    rw [e]
    by_cases h : dataLt (trD u) (trD t) = true
    · rw [if_pos h]
      obtain ⟨m, h1, h2⟩ := minD_tr ts u
      refine ⟨m, h1, fun t' ht => ?_⟩
      rcases List.mem_cons.mp ht with rfl | ht
      · exact Int.le_trans (h2 u List.mem_cons_self) (lt_tr.1 h)
      · exact h2 t' ht
    · rw [if_neg h]
      obtain ⟨m, h1, h2⟩ := minD_tr ts t
      refine ⟨m, h1, fun t' ht => ?_⟩
      rcases List.mem_cons.mp ht with rfl | ht
      · exact h2 t' List.mem_cons_self
      · rcases List.mem_cons.mp ht with rfl | ht
        · exact Int.le_trans (h2 t List.mem_cons_self) (lt_tr.2 (by simpa using h))
        · exact h2 t' (List.mem_cons_of_mem _ ht)
theorem maxD_tr : ∀ (ts : List Tr) (t : Tr), ∃ m, maxD (trD t) (ts.map trD) = trD m ∧ ∀ t' ∈ t :: ts, t'.1 ≤ m.1
  | [], t => ⟨t, rfl, fun t' h => by rw [List.mem_singleton.mp h]; exact Int.le_refl _⟩
  | u :: ts, t => by
    have e : maxD (trD t) ((u :: ts).map trD) = maxD (if dataLt (trD t) (trD u) = true then trD u else trD t) (ts.map trD) := rfl
    rw [e]
    by_cases h : dataLt (trD t) (trD u) = true
    · rw [if_pos h]
      obtain ⟨m, h1, h2⟩ := maxD_tr ts u
      refine ⟨m, h1, fun t' ht => ?_⟩
      rcases List.mem_cons.mp ht with rfl | ht
      · exact Int.le_trans (lt_tr.1 h) (h2 u List.mem_cons_self)
      · exact h2 t' ht
    · rw [if_neg h]
      obtain ⟨m, h1, h2⟩ := maxD_tr ts t
      refine ⟨m, h1, fun t' ht => ?_⟩
      rcases List.mem_cons.mp ht with rfl | ht
      · exact h2 t' List.mem_cons_self
      · rcases List.mem_cons.mp ht with rfl | ht
        · exact Int.le_trans (lt_tr.2 (by simpa using h)) (h2 t List.mem_cons_self)
        · exact h2 t' (List.mem_cons_of_mem _ ht)
/-- tuples that stand in H: these triples -/
def TrAt (K : PySem.W.Frag) (H : Hp) (c : Addr) (t : Tr) : Prop := SqT K H c [.int t.1, .str t.2.1, .str t.2.2]
theorem tr_dp {K : PySem.W.Frag} {H : Hp} : ∀ {cs : List Addr} {ts : List Tr}, Paired (TrAt K H) cs ts → DpAll K H (cs.map V.ref) (ts.map trD)
  | _, _, .nil => .nil
  | _, _, .cons h t => .cons (.tup h (.cons (.int _) (.cons (.str _) (.cons (.str _) .nil)))) (tr_dp t)
theorem tr_alike (ts : List Tr) : AlikeAll (ts.map trD) := by
  constructor
  · intro x hx y hy
    obtain ⟨a, _, rfl⟩ := List.mem_map.mp hx
    obtain ⟨b, _, rfl⟩ := List.mem_map.mp hy
    exact alike_tr a b
  · intro x hx
    obtain ⟨a, _, rfl⟩ := List.mem_map.mp hx
    intro e; cases e
theorem tr_depth : ∀ ts : List Tr, PyData.depthAll (ts.map trD) ≤ 2
  | [] => Nat.zero_le _
  | t :: ts => by
    have := tr_depth ts
    have e : PyData.depthAll ((t :: ts).map trD) = max (PyData.depth (trD t)) (PyData.depthAll (ts.map trD)) := by rw [List.map_cons, PyData.depthAll]
    rw [e]
    have : PyData.depth (trD t) ≤ 2 := by simp [trD, PyData.depth, PyData.depthAll]
    omega
def rMinT (K : PySem.W.Frag) : List V → Hp → VK → Prop := fun vs H Q => ∃ (a : Addr) (cs : List Addr) (ts : List Tr), vs = [V.ref a] ∧ SqL K H a (cs.map V.ref) ∧ Paired (TrAt K H) cs ts ∧ ts ≠ [] ∧
  ∀ (i : Nat) (c : Addr) (t : Tr), cs[i]? = some c → ts[i]? = some t → (∀ t' ∈ ts, t.1 ≤ t'.1) → Q (.ref c) H
def rMaxT (K : PySem.W.Frag) : List V → Hp → VK → Prop := fun vs H Q => ∃ (a : Addr) (cs : List Addr) (ts : List Tr), vs = [V.ref a] ∧ SqL K H a (cs.map V.ref) ∧ Paired (TrAt K H) cs ts ∧ ts ≠ [] ∧
  ∀ (i : Nat) (c : Addr) (t : Tr), cs[i]? = some c → ts[i]? = some t → (∀ t' ∈ ts, t'.1 ≤ t.1) → Q (.ref c) H
theorem tr_pick {K : PySem.W.Frag} {cs : List Addr} {its : List Value} (rv : Vals (cs.map V.ref) its) {i : Nat} {v : Value} (hv : its[i]? = some v) : ∃ c, cs[i]? = some c ∧ v = .ref c := by
  have hlen := rv.length
  have hi : i < its.length := (List.getElem?_eq_some_iff.mp hv).1
  rw [List.length_map] at hlen
  have hc : i < cs.length := by omega
  obtain ⟨u, hu, ru⟩ := rv.get (i := i) (x := .ref cs[i]) (by simp [hc])
  rw [hv] at hu
  cases hu
  exact ⟨cs[i], by simp [hc], ru⟩
theorem tr_item {P : Program} {cs : List Addr} {t0 : Tr} {ts : List Tr} {h h' : Heap} {its : List Value} {as bs : List Addr} (hr : ReadsAll h its.toArray.toList ((t0 :: ts).map trD) as) {i : Nat} {v : Value} (hv : its.toArray[i]? = some v) {m : Tr} (hm : Reads h' v (trD m) bs)
    (hk : ∀ b o, h.get? b = some o → h'.get? b = some o) : (t0 :: ts)[i]? = some m := by
  obtain ⟨bs', r, hi, _, _⟩ := readsAll_atA hr i v hv
  obtain ⟨e, _⟩ := reads_det (fun b o e _ => hk b o e) r hm
  rw [List.length_map] at hi
  have e2 : ((t0 :: ts).map trD).getD i .none = trD ((t0 :: ts)[i]) := by
    rw [List.getD_eq_getElem?_getD, List.getElem?_map, List.getElem?_eq_getElem hi]
    rfl
  rw [e2] at e
  have e3 : m = (t0 :: ts)[i] := by
    unfold trD at e
    injection e with e
    injection e with e1 e
    injection e with e4 e
    injection e with e5 e
    injection e1 with e1
    injection e4 with e4
    injection e5 with e5
    exact Prod.ext e1 (Prod.ext e4 e5)
  rw [List.getElem?_eq_getElem hi, e3]
theorem cr_minT {X : Cx} (hc : X.calm = true) (hu : X.A.units + 9 < cLine) : CallR X (.builtin "min") (rMinT X.K) := by
  intro pins s σ H vs us Q I r h
  obtain ⟨a, cs, ts, rfl, hs, hp, hne, q⟩ := h
  obtain ⟨its, rv, hl, _⟩ := I.list hs
  rw [Vals.ref1 r]
  cases ts with
  | nil => exact absurd rfl hne
  | cons t0 ts =>
    obtain ⟨as, hr⟩ := Dp.readsAll I _ _ its (tr_dp hp) rv
    obtain ⟨m, em, hm⟩ := minD_tr ts t0
    refine min_list_data (x := trD t0) (xs := ts.map trD) (I.ok.hd hc) hl.isList (by simpa using hr) (tr_alike (t0 :: ts)) (by have := tr_depth (t0 :: ts); rw [List.map_cons] at this; omega) fun i v h' tk bs hv hrd hk => ?_
    rw [em] at hrd
    have hi := tr_item (P := X.prog) (cs := cs) (by simpa using hr) hv hrd hk
    obtain ⟨c, hc1, rfl⟩ := tr_pick (K := X.K) rv (by simpa using hv)
    exact ⟨.ref c, H, I.kept hk, rfl, q i c m hc1 hi hm⟩
theorem cr_maxT {X : Cx} (hc : X.calm = true) (hu : X.A.units + 9 < cLine) : CallR X (.builtin "max") (rMaxT X.K) := by
  intro pins s σ H vs us Q I r h
  obtain ⟨a, cs, ts, rfl, hs, hp, hne, q⟩ := h
  obtain ⟨its, rv, hl, _⟩ := I.list hs
  rw [Vals.ref1 r]
  cases ts with
  | nil => exact absurd rfl hne
  | cons t0 ts =>
    obtain ⟨as, hr⟩ := Dp.readsAll I _ _ its (tr_dp hp) rv
    obtain ⟨m, em, hm⟩ := maxD_tr ts t0
    refine max_list_data (x := trD t0) (xs := ts.map trD) (I.ok.hd hc) hl.isList (by simpa using hr) (tr_alike (t0 :: ts)) (by have := tr_depth (t0 :: ts); rw [List.map_cons] at this; omega) fun i v h' tk bs hv hrd hk => ?_
    rw [em] at hrd
    have hi := tr_item (P := X.prog) (cs := cs) (by simpa using hr) hv hrd hk
    obtain ⟨c, hc1, rfl⟩ := tr_pick (K := X.K) rv (by simpa using hv)
    exact ⟨.ref c, H, I.kept hk, rfl, q i c m hc1 hi hm⟩

/-! ### isinstance, its answers by hand -/
theorem isi_int {K : PySem.W.Frag} {H : Hp} {i : Int} {n : String} {b : Bool} {Q : VK} (h : kitB "int" n = some b) (q : Q (.bl b) H) : rIsi K [.int i, .ty n] H Q := ⟨_, _, _, _, b, rfl, .ty n, .base (.int i), kit_ty h, q⟩
theorem isi_str {K : PySem.W.Frag} {H : Hp} {x : Str} {n : String} {b : Bool} {Q : VK} (h : kitB "str" n = some b) (q : Q (.bl b) H) : rIsi K [.str x, .ty n] H Q := ⟨_, _, _, _, b, rfl, .ty n, .base (.str x), kit_ty h, q⟩
theorem isi_tup {K : PySem.W.Frag} {H : Hp} {a : Addr} {xs : List V} {n : String} {b : Bool} {Q : VK} (e : H a = some (.tup xs)) (h : kitB "tuple" n = some b) (q : Q (.bl b) H) : rIsi K [.ref a, .ty n] H Q := ⟨_, _, _, _, b, rfl, .ty n, .base (.tup e), kit_ty h, q⟩
theorem isi_intT {K : PySem.W.Frag} {H : Hp} {i : Int} {p : Addr} {Q : VK} (e : H p = some (.tup [.ty "tuple", .ty "list"])) (q : Q (.bl false) H) : rIsiT K [.int i, .ref p] H Q :=
  ⟨_, p, _, _, [.type "tuple", .type "list"], false, rfl, e, .cons (.ty _) (.cons (.ty _) .nil), .base (.int i), kitAny_cons (b := false) (kit_ty (by decide +kernel)) (fun _ => kitAny_cons (b := false) (kit_ty (by decide +kernel)) (fun _ => kitAny_nil) fun z => nomatch z) (fun z => nomatch z), q⟩
end KX
end L2
namespace L2
namespace KX
open PySem PySem.W PySem.Spec PyProof.Rows

/-! ### the text by places -/
def topS (i : Nat) : Stmt := PySem.Challenge.pw_keylanes_k39_whole_walks.main.body.getD i (.Pass ⟨0, 0, 0, 0⟩)
abbrev sIsInt : Stmt := topS 6
abbrev sIsIn : Stmt := topS 7
abbrev sIsColumn : Stmt := topS 9
abbrev sFitsBehind : Stmt := topS 10
abbrev sNeedRegion : Stmt := topS 11
abbrev sEndOf : Stmt := topS 12
abbrev sIsOpen : Stmt := topS 13
abbrev sSpansOf : Stmt := topS 14
abbrev sStepsIn : Stmt := topS 15
abbrev sAfter : Stmt := topS 17
abbrev sSpansOn : Stmt := topS 18
abbrev sNeedPlay : Stmt := topS 19
abbrev sCostOf : Stmt := topS 21
abbrev sWalked : Stmt := topS 22
abbrev sTableOf : Stmt := topS 23
abbrev sEndsIn : Stmt := topS 24
abbrev sLeastWalk : Stmt := topS 25
abbrev sMostWalk : Stmt := topS 26
abbrev sWalkBack : Stmt := topS 27
abbrev sLTaken : Stmt := topS 29
abbrev sLAlike : Stmt := topS 30
abbrev sLAfter : Stmt := topS 31
abbrev sLRegion : Stmt := topS 32
abbrev sLSpans : Stmt := topS 33
abbrev sLPlays : Stmt := topS 34
abbrev sLPath : Stmt := topS 35
abbrev sLRooms : Stmt := topS 36
abbrev sLCount : Stmt := topS 37
abbrev sLFew : Stmt := topS 38
abbrev sLWalk : Stmt := topS 39
abbrev sLaw : Stmt := topS 40
abbrev nIsInt : List Str := ["value"]
theorem scIsInt : FnScope nIsInt ["value"] (defScope sIsInt) := ⟨rfl, rfl, rfl, by decide +kernel, rfl, by decide +kernel, by decide +kernel⟩
abbrev nIsIn : List Str := ["value", "least", "most"]
theorem scIsIn : FnScope nIsIn ["value", "least", "most"] (defScope sIsIn) := ⟨rfl, rfl, rfl, by decide +kernel, rfl, by decide +kernel, by decide +kernel⟩
abbrev nIsColumn : List Str := ["value"]
theorem scIsColumn : FnScope nIsColumn ["value"] (defScope sIsColumn) := ⟨rfl, rfl, rfl, by decide +kernel, rfl, by decide +kernel, by decide +kernel⟩
abbrev nFitsBehind : List Str := ["one", "other"]
theorem scFitsBehind : FnScope nFitsBehind ["one", "other"] (defScope sFitsBehind) := ⟨rfl, rfl, rfl, by decide +kernel, rfl, by decide +kernel, by decide +kernel⟩
abbrev nNeedRegion : List Str := ["value", "index", "column"]
theorem scNeedRegion : FnScope nNeedRegion ["value"] (defScope sNeedRegion) := ⟨rfl, rfl, rfl, by decide +kernel, rfl, by decide +kernel, by decide +kernel⟩
abbrev nEndOf : List Str := ["region"]
theorem scEndOf : FnScope nEndOf ["region"] (defScope sEndOf) := ⟨rfl, rfl, rfl, by decide +kernel, rfl, by decide +kernel, by decide +kernel⟩
abbrev nIsOpen : List Str := ["region", "span"]
theorem scIsOpen : FnScope nIsOpen ["region", "span"] (defScope sIsOpen) := ⟨rfl, rfl, rfl, by decide +kernel, rfl, by decide +kernel, by decide +kernel⟩
abbrev nSpansOf : List Str := ["region", "x", "column", "y"]
theorem scSpansOf : FnScope nSpansOf ["region"] (defScope sSpansOf) := ⟨rfl, rfl, rfl, by decide +kernel, rfl, by decide +kernel, by decide +kernel⟩
abbrev nStepsIn : List Str := ["region", "span", "x", "y", "found"]
theorem scStepsIn : FnScope nStepsIn ["region", "span"] (defScope sStepsIn) := ⟨rfl, rfl, rfl, by decide +kernel, rfl, by decide +kernel, by decide +kernel⟩
abbrev nAfter : List Str := ["span", "sign"]
theorem scAfter : FnScope nAfter ["span", "sign"] (defScope sAfter) := ⟨rfl, rfl, rfl, by decide +kernel, rfl, by decide +kernel, by decide +kernel⟩
abbrev nSpansOn : List Str := ["word", "found", "sign"]
theorem scSpansOn : FnScope nSpansOn ["word"] (defScope sSpansOn) := ⟨rfl, rfl, rfl, by decide +kernel, rfl, by decide +kernel, by decide +kernel⟩
abbrev nNeedPlay : List Str := ["region", "word", "span", "place", "sign"]
theorem scNeedPlay : FnScope nNeedPlay ["region", "word"] (defScope sNeedPlay) := ⟨rfl, rfl, rfl, by decide +kernel, rfl, by decide +kernel, by decide +kernel⟩
abbrev nCostOf : List Str := ["span", "side", "sign"]
theorem scCostOf : FnScope nCostOf ["span", "side", "sign"] (defScope sCostOf) := ⟨rfl, rfl, rfl, by decide +kernel, rfl, by decide +kernel, by decide +kernel⟩
abbrev nWalked : List Str := ["region", "word", "side", "found", "span", "sign"]
theorem scWalked : FnScope nWalked ["region", "word"] (defScope sWalked) := ⟨rfl, rfl, rfl, by decide +kernel, rfl, by decide +kernel, by decide +kernel⟩
abbrev nTableOf : List Str := ["region", "is_most", "found", "span", "sign", "there", "side", "size", "word", "told", "known"]
theorem scTableOf : FnScope nTableOf ["region", "is_most"] (defScope sTableOf) := ⟨rfl, rfl, rfl, by decide +kernel, rfl, by decide +kernel, by decide +kernel⟩
abbrev nEndsIn : List Str := ["region", "table", "end", "side"]
theorem scEndsIn : FnScope nEndsIn ["region", "table"] (defScope sEndsIn) := ⟨rfl, rfl, rfl, by decide +kernel, rfl, by decide +kernel, by decide +kernel⟩
abbrev nLeastWalk : List Str := ["region", "size", "side", "word"]
theorem scLeastWalk : FnScope nLeastWalk ["region"] (defScope sLeastWalk) := ⟨rfl, rfl, rfl, by decide +kernel, rfl, by decide +kernel, by decide +kernel⟩
abbrev nMostWalk : List Str := ["region", "size", "side", "word"]
theorem scMostWalk : FnScope nMostWalk ["region"] (defScope sMostWalk) := ⟨rfl, rfl, rfl, by decide +kernel, rfl, by decide +kernel, by decide +kernel⟩
abbrev nWalkBack : List Str := ["region", "left", "right", "homes", "size", "side", "word"]
theorem scWalkBack : FnScope nWalkBack ["region"] (defScope sWalkBack) := ⟨rfl, rfl, rfl, by decide +kernel, rfl, by decide +kernel, by decide +kernel⟩
abbrev nLTaken : List Str := ["_law_row", "_law_many", "_law_found", "_law_cell"]
theorem scLTaken : FnScope nLTaken ["_law_row", "_law_many"] (defScope sLTaken) := ⟨rfl, rfl, rfl, by decide +kernel, rfl, by decide +kernel, by decide +kernel⟩
abbrev nLAlike : List Str := ["_law_found", "_law_due"]
theorem scLAlike : FnScope nLAlike ["_law_found", "_law_due"] (defScope sLAlike) := ⟨rfl, rfl, rfl, by decide +kernel, rfl, by decide +kernel, by decide +kernel⟩
abbrev nLAfter : List Str := ["_law_span", "_law_sign"]
theorem scLAfter : FnScope nLAfter ["_law_span", "_law_sign"] (defScope sLAfter) := ⟨rfl, rfl, rfl, by decide +kernel, rfl, by decide +kernel, by decide +kernel⟩
abbrev nLRegion : List Str := ["_law_row", "_law_wide", "_law_high", "_law_columns", "_law_low", "_law_top", "_law_kind", "_law_x"]
theorem scLRegion : FnScope nLRegion ["_law_row", "_law_wide", "_law_high"] (defScope sLRegion) := ⟨rfl, rfl, rfl, by decide +kernel, rfl, by decide +kernel, by decide +kernel⟩
abbrev nLSpans : List Str := ["_law_shape", "_law_found", "_law_x", "_law_y"]
theorem scLSpans : FnScope nLSpans ["_law_shape"] (defScope sLSpans) := ⟨rfl, rfl, rfl, by decide +kernel, rfl, by decide +kernel, by decide +kernel⟩
abbrev nLPlays : List Str := ["_law_shape", "_law_some", "_law_found", "_law_turn", "_law_longer", "_law_word", "_law_span", "_law_sign"]
theorem scLPlays : FnScope nLPlays ["_law_shape"] (defScope sLPlays) := ⟨rfl, rfl, rfl, by decide +kernel, rfl, by decide +kernel, by decide +kernel⟩
abbrev nLPath : List Str := ["_law_word", "_law_found", "_law_sign"]
theorem scLPath : FnScope nLPath ["_law_word"] (defScope sLPath) := ⟨rfl, rfl, rfl, by decide +kernel, rfl, by decide +kernel, by decide +kernel⟩
abbrev nLRooms : List Str := ["_law_word", "_law_found", "_law_span", "_law_sign"]
theorem scLRooms : FnScope nLRooms ["_law_word"] (defScope sLRooms) := ⟨rfl, rfl, rfl, by decide +kernel, rfl, by decide +kernel, by decide +kernel⟩
abbrev nLCount : List Str := ["_law_shape", "_law_found", "_law_x", "_law_y"]
theorem scLCount : FnScope nLCount ["_law_shape"] (defScope sLCount) := ⟨rfl, rfl, rfl, by decide +kernel, rfl, by decide +kernel, by decide +kernel⟩
abbrev nLFew : List Str := ["_law_row", "_law_most", "_law_shape"]
theorem scLFew : FnScope nLFew ["_law_row", "_law_most"] (defScope sLFew) := ⟨rfl, rfl, rfl, by decide +kernel, rfl, by decide +kernel, by decide +kernel⟩
abbrev nLWalk : List Str := ["_law_word", "_law_found", "_law_last", "_law_span", "_law_sign"]
theorem scLWalk : FnScope nLWalk ["_law_word"] (defScope sLWalk) := ⟨rfl, rfl, rfl, by decide +kernel, rfl, by decide +kernel, by decide +kernel⟩
abbrev nLaw : List Str := ["_law_script", "_law_row", "_law_region_here", "_law_every", "_law_word", "_law_sizes", "_law_at", "_law_found", "_law_due", "_law_homes", "_law_size"]
theorem scLaw : FnScope nLaw ["_law_script"] (defScope sLaw) := ⟨rfl, rfl, rfl, by decide +kernel, rfl, by decide +kernel, by decide +kernel⟩

/-! ### what the top leaves -/
structure Dn (K : PySem.W.Frag) (mg : Str → Option Value) (x : Str) (st : Stmt) (ps : List Str) where
  f : Addr
  fd : FuncData
  F : Fun K x x st f fd
  b : Binds K fd ps []
  g : mg x = some (.ref f)
structure Txt (K : PySem.W.Frag) (mg : Str → Option Value) where
  isInt : Dn K mg "is_int" sIsInt ["value"]
  isIn : Dn K mg "is_in" sIsIn ["value", "least", "most"]
  isColumn : Dn K mg "is_column" sIsColumn ["value"]
  fitsBehind : Dn K mg "fits_behind" sFitsBehind ["one", "other"]
  needRegion : Dn K mg "need_region" sNeedRegion ["value"]
  endOf : Dn K mg "end_of" sEndOf ["region"]
  isOpen : Dn K mg "is_open" sIsOpen ["region", "span"]
  spansOf : Dn K mg "spans_of" sSpansOf ["region"]
  stepsIn : Dn K mg "steps_in" sStepsIn ["region", "span"]
  after : Dn K mg "after" sAfter ["span", "sign"]
  spansOn : Dn K mg "spans_on" sSpansOn ["word"]
  needPlay : Dn K mg "need_play" sNeedPlay ["region", "word"]
  costOf : Dn K mg "cost_of" sCostOf ["span", "side", "sign"]
  walked : Dn K mg "walked" sWalked ["region", "word"]
  tableOf : Dn K mg "table_of" sTableOf ["region", "is_most"]
  endsIn : Dn K mg "ends_in" sEndsIn ["region", "table"]
  leastWalk : Dn K mg "least_walk" sLeastWalk ["region"]
  mostWalk : Dn K mg "most_walk" sMostWalk ["region"]
  walkBack : Dn K mg "walk_back" sWalkBack ["region"]
  lTaken : Dn K mg "_law_taken" sLTaken ["_law_row", "_law_many"]
  lAlike : Dn K mg "_law_alike" sLAlike ["_law_found", "_law_due"]
  lAfter : Dn K mg "_law_after" sLAfter ["_law_span", "_law_sign"]
  lRegion : Dn K mg "_law_region" sLRegion ["_law_row", "_law_wide", "_law_high"]
  lSpans : Dn K mg "_law_spans" sLSpans ["_law_shape"]
  lPlays : Dn K mg "_law_plays" sLPlays ["_law_shape"]
  lPath : Dn K mg "_law_path" sLPath ["_law_word"]
  lRooms : Dn K mg "_law_rooms" sLRooms ["_law_word"]
  lCount : Dn K mg "_law_count" sLCount ["_law_shape"]
  lFew : Dn K mg "_law_few" sLFew ["_law_row", "_law_most"]
  lWalk : Dn K mg "_law_walk" sLWalk ["_law_word"]
  most : ∃ t, mg "MOST_ROOMS" = some (.int 60 t)
  z_isinstance : mg "isinstance" = none
  z_int : mg "int" = none
  z_bool : mg "bool" = none
  z_tuple : mg "tuple" = none
  z_list : mg "list" = none
  z_len : mg "len" = none
  z_enumerate : mg "enumerate" = none
  z_str : mg "str" = none
  z_sum : mg "sum" = none
  z_zip : mg "zip" = none
  z_min : mg "min" = none
  z_max : mg "max" = none
  z_range : mg "range" = none
  z_abs : mg "abs" = none

/-- a call of a def of the text -/
theorem pe_c {X : Cx} {x : Str} {st : Stmt} {ps : List Str} {k : Nat} {sp : Sp} {p pos : Pos} {e : Expr} {es : List Expr} {t : TA} (d : Dn X.K X.mg x st ps) (G : FnOk X.prog X.w X.K X.mg X.base CX0 k d.f d.fd ps sp) (hr : Room k X.A)
    (ha : PA X (e :: es) t) (hg : Gl X x := by rfl) (hdb : (x == ("__debug__" : Str)) = false := by decide) (he : starEach (e :: es) X.env = (false, eval e X.env) :: starEach es X.env := by rfl) (hpl : (backTo pos (starEach es X.env)).any (·.1) = false := by rfl) :
    PE X (.Call (.Name x p) (e :: es) [] pos) (tCall sp [] E0 t) := pe_call G hr hg d.g d.F.kp d.b .nil pass0 ha hdb he hpl


/-! ### heaps -/
theorem Same.new {H : Hp} {p : Addr} {o : HO} (h : H p = none) : Same H (upd H p o) := fun b x e => by
  rw [upd_ne (ne_of_none e h)]
  exact e
/-- what H does not know may change -/
theorem Same.mut {H H' : Hp} {p : Addr} {o : HO} (e : Same H H') (h : H p = none) : Same H (upd H' p o) := fun b x hb => by
  rw [upd_ne (ne_of_none hb h)]
  exact e b x hb
theorem Same.seqT {K : PySem.W.Frag} {H H' : Hp} {a : Addr} {xs : List V} (e : Same H H') (h : SqT K H a xs) : SqT K H' a xs := by
  rcases h with (h | ⟨o, h⟩) | h
  · exact .inl (.inl (e _ _ h))
  · exact .inl (.inr ⟨o, e _ _ h⟩)
  · exact .inr h
theorem paired_get' {α β : Type} {G : α → β → Prop} {l₁ : List α} {l₂ : List β} (h : Paired G l₁ l₂) : ∀ {i : Nat} {b : β}, l₂[i]? = some b → ∃ a, l₁[i]? = some a ∧ G a b := by
  induction h with
  | nil => intro i b e; simp at e
  | cons r t ih =>
    intro i b e
    cases i with
    | zero => simp at e; subst e; exact ⟨_, rfl, r⟩
    | succ i =>
      obtain ⟨a, h1, h2⟩ := ih (i := i) (b := b) (by simpa using e)
      exact ⟨a, by simpa using h1, h2⟩
theorem sz_le {n : Nat} (h : n ≤ 100000) : n ≤ sizeLine := Nat.le_trans h (by decide)
theorem sz_lt {n : Nat} (h : n < 100000) : n < sizeLine := Nat.lt_of_lt_of_le h (by decide)

/-! ### how the data lie -/
open KL
def code : Sg → Nat
  | .L => 76
  | .R => 82
/-- a sign, a side, a word as texts -/
def sgS (c : Sg) : Str := ⟨#[code c]⟩
def sdS : Option Sg → Str
  | none => ""
  | some c => sgS c
def wordS (w : List Sg) : Str := ⟨(w.map code).toArray⟩
theorem code_inj {a b : Sg} (h : code a = code b) : a = b := by cases a <;> cases b <;> first | rfl | (exact absurd h (by decide))
theorem map_code_inj : ∀ {a b : List Sg}, a.map code = b.map code → a = b
  | [], [], _ => rfl
  | [], _ :: _, h => by simp at h
  | _ :: _, [], h => by simp at h
  | x :: a, y :: b, h => by
    rw [List.map_cons, List.map_cons] at h
    injection h with h1 h2
    rw [code_inj h1, map_code_inj h2]
theorem wordS_inj {a b : List Sg} (h : wordS a = wordS b) : a = b := by
  unfold wordS at h
  injection h with h
  exact map_code_inj (by simpa using h)
theorem sgS_inj {a b : Sg} (h : sgS a = sgS b) : a = b := by cases a <;> cases b <;> first | rfl | (exact absurd h (by decide))
theorem sdS_inj {a b : Option Sg} (h : sdS a = sdS b) : a = b := by
  rcases a with _ | _ | _ <;> rcases b with _ | _ | _ <;> first | rfl | (exact absurd h (by decide))
theorem wordS_snoc (w : List Sg) (c : Sg) : wordS w ++ sgS c = wordS (w ++ [c]) := by
  unfold wordS sgS
  show (⟨(w.map code).toArray ++ #[code c]⟩ : Str) = _
  simp
theorem wordS_len (w : List Sg) : (wordS w).length = w.length := by
  show (w.map code).toArray.size = _
  simp
theorem wordS_cps (w : List Sg) (i : Nat) : (wordS w).cps[i]? = (w[i]?).map code := by
  show (w.map code).toArray[i]? = _
  simp
theorem wordS_size (w : List Sg) : (wordS w).cps.size = w.length := by
  show (w.map code).toArray.size = _
  simp
theorem word_sign {w : List Sg} {i c : Nat} (h : (wordS w).cps[i]? = some c) : ∃ g, w[i]? = some g ∧ (⟨#[c]⟩ : Str) = sgS g := by
  rw [wordS_cps] at h
  obtain ⟨g, h1, h2⟩ := Option.map_eq_some_iff.mp h
  exact ⟨g, h1, by unfold sgS; rw [h2]⟩

/-- a pair of numbers -/
def At2 (H : Hp) (p : Addr) (u : Nat × Nat) : Prop := H p = some (.tup [.int (u.1 : Int), .int (u.2 : Int)])
theorem At2.same {H H' : Hp} {p : Addr} {u : Nat × Nat} (e : Same H H') (h : At2 H p u) : At2 H' p u := e _ _ h
/-- a region: a tuple of pairs -/
def RgAt (H : Hp) (a : Addr) (r : Rg) : Prop := ∃ cs : List Addr, H a = some (.tup (cs.map V.ref)) ∧ Paired (At2 H) cs r
theorem RgAt.same {H H' : Hp} {a : Addr} {r : Rg} (e : Same H H') (h : RgAt H a r) : RgAt H' a r := by
  obtain ⟨cs, h1, h2⟩ := h
  exact ⟨cs, e _ _ h1, Paired.mapP h2 fun _ _ z => z.same e⟩
/-- a list of pairs -/
def SpAt (H : Hp) (l : Addr) (us : List Spn) : Prop := ∃ cs : List Addr, H l = some (.lst (cs.map V.ref)) ∧ Paired (At2 H) cs us
theorem SpAt.same {H H' : Hp} {a : Addr} {us : List Spn} (e : Same H H') (h : SpAt H a us) : SpAt H' a us := by
  obtain ⟨cs, h1, h2⟩ := h
  exact ⟨cs, e _ _ h1, Paired.mapP h2 fun _ _ z => z.same e⟩
theorem RgAt.col {H : Hp} {a : Addr} {r : Rg} (h : RgAt H a r) : ∃ cs : List Addr, H a = some (.tup (cs.map V.ref)) ∧ (cs.map V.ref).length = r.length ∧ ∀ x, x < r.length → ∃ c, (cs.map V.ref)[x]? = some (.ref c) ∧ H c = some (.tup [.int (clo r x : Int), .int (chi r x : Int)]) := by
  obtain ⟨cs, h1, h2⟩ := h
  refine ⟨cs, h1, by rw [List.length_map]; exact h2.length, fun x hx => ?_⟩
  obtain ⟨c, e1, e2⟩ := paired_get' h2 (List.getElem?_eq_getElem hx)
  refine ⟨c, by rw [List.getElem?_map, e1]; rfl, ?_⟩
  have e3 : r.getD x (1, 0) = r[x] := by rw [List.getD_eq_getElem?_getD, List.getElem?_eq_getElem hx]; rfl
  unfold clo chi
  rw [e3]
  exact e2
theorem SpAt.get {H : Hp} {l : Addr} {us : List Spn} (h : SpAt H l us) : ∃ cs : List Addr, H l = some (.lst (cs.map V.ref)) ∧ (cs.map V.ref).length = us.length ∧ ∀ (i : Nat) (x : V), (cs.map V.ref)[i]? = some x → ∃ c u, x = .ref c ∧ us[i]? = some u ∧ At2 H c u := by
  obtain ⟨cs, h1, h2⟩ := h
  refine ⟨cs, h1, by rw [List.length_map]; exact h2.length, fun i x hx => ?_⟩
  rw [List.getElem?_map] at hx
  obtain ⟨c, e1, e2⟩ := Option.map_eq_some_iff.mp hx
  obtain ⟨u, e3, e4⟩ := paired_get h2 e1
  exact ⟨c, u, e2.symm, e3, e4⟩
/-- one more pair -/
theorem SpAt.snoc {H : Hp} {l p : Addr} {cs : List Addr} {us : List Spn} {u : Spn} (h : H l = some (.lst (cs.map V.ref))) (h2 : Paired (At2 H) cs us) (hp : At2 H p u) : SpAt (upd H l (.lst (cs.map V.ref ++ [.ref p]))) l (us ++ [u]) := by
  refine ⟨cs ++ [p], by rw [upd_same, List.map_append]; rfl, ?_⟩
  have keep : ∀ c v, At2 H c v → At2 (upd H l (.lst (cs.map V.ref ++ [.ref p]))) c v := fun c v z => by
    unfold At2 at *
    rw [upd_ne (ne_of z h fun q => nomatch q)]
    exact z
  exact Paired.snoc (Paired.mapP h2 keep) (keep _ _ hp)
end KX
end L2
namespace L2
namespace KX
open PySem PySem.W PySem.Spec PyProof.Rows
/-! ### rules for a comprehension's block, with what is fixed named from outside -/
section
variable {X : Cx} {K : PySem.W.Frag} {P : Program} {w : World} {pos : Pos}
theorem pg_tupK (hK : X.K = K) {es : List Expr} {k : Nat} {t : TGs} {n : Nat} (hc : X.calm = true) (h : PGs X es t)
    (hn : (assignEach es X.env).length = n := by rfl) (hst : (assignEach es X.env).findIdx? (·.1) = none := by rfl) : PG X (.Tuple es k pos) (gTup K n t) := by
  subst hK
  exact pg_tup hc h hn hst
theorem ix_tupK (hK : X.K = K) : IxR X (rIxT K) := by subst hK; exact ix_tup
theorem ix_listK (hK : X.K = K) : IxR X (rIxL K) := by subst hK; exact ix_list
theorem pc_ninK (hP : X.prog = P) (hw : X.w = w) {i o : Expr} {ty td : TE} (hu : X.A.units + 9 < cLine) (hi : PE X i ty) (ho : PE X o td) : PC X .In i o (tNIn P w ty td) := by
  subst hP hw
  exact pc_nin hu hi ho
theorem pe_ngetK (hP : X.prog = P) (hw : X.w = w) {i o : Expr} {ty td : TE} (hu : X.A.units + 9 < cLine) (ho : PE X o td) (hi : PE X i ty) (hs : NoSl i) : PE X (.Subscript o i pos) (tNGet P w td ty) := by
  subst hP hw
  exact pe_nget hu ho hi hs
theorem pe_nget1K (hP : X.prog = P) (hw : X.w = w) {o e : Expr} {apos cpos : Pos} {td ty : TE} (hu : X.A.units + 9 < cLine) (ho : PE X o td) (he : PE X e ty) (m : M1 X o "get" apos e cpos) : PE X (.Call (.Attribute o "get" apos) [e] [] cpos) (tNGet1 P w td ty) := by
  subst hP hw
  exact pe_nget1 hu ho he m
theorem ps_nputK (hP : X.prog = P) (hw : X.w = w) {o i value : Expr} {pos' : Pos} {td ty tv : TE} (hu : X.A.units + 9 < cLine) (ho : PE X o td) (hi : PE X i ty) (hv : PE X value tv) (hs : swapsWith value (some (.Subscript o i pos')) pos.line X.env = pure false) :
    PS X (.Assign [.Subscript o i pos'] value pos) (sNPut P w td ty tv) := by
  subst hP hw
  exact ps_nput hu ho hi hv hs
theorem pe_ndispK (hP : X.prog = P) (hw : X.w = w) {e value : Expr} {tk tv : TE} (hu : X.A.units + 9 < cLine) (hk : PE X e tk) (hv : PE X value tv) : PE X (.Dict [some e] [value] pos) (tNDisp P w tk tv) := by
  subst hP hw
  exact pe_ndisp hu hk hv
theorem op_inDK (hK : X.K = K) (hu : X.A.units + 65 < cLine) : OpR X (compareOp .In) (rInD K) := by
  subst hK
  exact op_inD hu
theorem pi_listK (hK : X.K = K) {tg l : Expr} {tl : TE} (hl : PE X l tl) : PI X tg l (iList K tl) := by
  subst hK
  exact pi_list hl
/-- a if t else b, as a test -/
def tIfT (t ta tb : TT) : TT := fun σ H Q => t σ H fun c H1 => if c = true then ta σ H1 Q else tb σ H1 Q
theorem pt_ifExp {c a b : Expr} {tc ta tb : TT} (hc : PT X c tc) (ha : PT X a ta) (hb : PT X b tb) : PT X (.IfExp c a b pos) (tIfT tc ta tb) := by
  refine ⟨fun pins s σ H Q I h => ?_⟩
  refine isTrue_IfExp (thn (hc.run pins s σ H _ I h) fun d s1 ⟨H1, I1, q1⟩ => ?_)
  cases d with
  | true => exact ha.run pins s1 σ H1 Q I1 q1
  | false => exact hb.run pins s1 σ H1 Q I1 q1
end
end KX
end L2
namespace L2
namespace KX
open PySem PySem.W PySem.Spec PyProof.Rows
open KL

/-- isinstance(e, c), c a built-in class by its name -/
theorem pe_isi {X : Cx} {e : Expr} {te : TE} {c : Str} {n : String} {p q pos : Pos} (he : PE X e te) (hz : X.mg "isinstance" = none) (hc : X.mg c = none) (hv : bootBuiltins c = some (.type n)) (hg : Gl X "isinstance" := by rfl) (hg2 : Gl X c := by rfl)
    (hn : c ≠ "__name__" := by decide) (hd : (c == ("__debug__" : Str)) = false := by decide)
    (hs1 : starEach [e, .Name c q] X.env = (false, eval e X.env) :: starEach [.Name c q] X.env := by rfl) (hs2 : starEach [.Name c q] X.env = (false, eval (.Name c q) X.env) :: starEach [] X.env := by rfl) (hpl : (backTo pos (starEach [.Name c q] X.env)).any (·.1) = false := by rfl) :
    PE X (.Call (.Name "isinstance" p) [e, .Name c q] [] pos) (tCB (rIsi X.K) (tCons te (tCons (tC (.ty n)) tNil))) :=
  pe_callB call_isi hg hz boot_isinstance (pa_cons he (pa_cons (pe_bltn hg2 hc hv rfl hn hd) pa_nil hs2) hs1) (by decide) (by decide) hs1 hpl

theorem boot_bool : bootBuiltins "bool" = some (.type "bool") := by decide +kernel
theorem bt {c : Prop} [Decidable c] (h : c) : V.bl (decide c) = V.bl true := by rw [decide_eq_true h]
theorem bf {c : Prop} [Decidable c] (h : ¬ c) : V.bl (decide c) = V.bl false := by rw [decide_eq_false h]
theorem bq {c : Prop} [Decidable c] {Q : VK} {H : Hp} (h : c) (q : Q (.bl true) H) : Q (.bl (decide c)) H := by rw [decide_eq_true h]; exact q
theorem bqf {c : Prop} [Decidable c] {Q : VK} {H : Hp} (h : ¬ c) (q : Q (.bl false) H) : Q (.bl (decide c)) H := by rw [decide_eq_false h]; exact q

section
variable {P : Program} {w : World} {K : PySem.W.Frag} {mg : Str → Option Value} {base : Heap}
def spIsInt : Sp := fun vs H Q _ => ∃ i, vs = [.int i] ∧ Q (.bl true) H
theorem ok_isInt (T : Txt K mg) : FnOk P w K mg base CX0 1 T.isInt.f T.isInt.fd ["value"] spIsInt := by
  refine T.isInt.F.ok scIsInt (fun vs H Q E h => ?_) (fun cdv A outer s H vs Q E hr h => ?_)
  · obtain ⟨i, rfl, _⟩ := h
    rfl
  · obtain ⟨i, rfl, q⟩ := h
    refine ⟨_, pss_one (ps_ret (pe_and (pe_isi (pv 0) T.z_isinstance T.z_int boot_int) (pe_one (pe_not (pe_isi (pv 0) T.z_isinstance T.z_bool boot_bool))))), ?_⟩
    refine ⟨.int i, rfl, _, _, _, _, true, rfl, .ty _, .base (.int i), kit_ty (by decide +kernel), true, rfl, iteT ?_⟩
    exact ⟨.int i, rfl, _, _, _, _, false, rfl, .ty _, .base (.int i), kit_ty (by decide +kernel), false, rfl, q⟩
def spIsIn : Sp := fun vs H Q _ => ∃ v l m : Int, vs = [.int v, .int l, .int m] ∧ l ≤ v ∧ v ≤ m ∧ Q (.bl true) H
theorem ok_isIn (T : Txt K mg) : FnOk P w K mg base CX0 2 T.isIn.f T.isIn.fd ["value", "least", "most"] spIsIn := by
  refine T.isIn.F.ok scIsIn (fun vs H Q E h => ?_) (fun cdv A outer s H vs Q E hr h => ?_)
  · obtain ⟨v, l, m, rfl, _⟩ := h
    rfl
  · obtain ⟨v, l, m, rfl, h1, h2, q⟩ := h
    refine ⟨_, pss_one (ps_ret (pe_and (pe_c T.isInt (ok_isInt T) hr (pa_cons (pv 0) pa_nil)) (pe_one (pe_chain op_le op_le (pv 1) (pv 0) (pv 2))))), ?_⟩
    refine ⟨.int v, rfl, v, rfl, true, rfl, iteT ?_⟩
    refine ⟨.int l, rfl, .int v, rfl, l, v, rfl, rfl, true, ?_, iteT ⟨.int m, rfl, v, m, rfl, rfl, ?_⟩⟩
    · exact bt h1
    · exact bq h2 q
def spIsColumn : Sp := fun vs H Q _ => ∃ (p : Addr) (u : Nat × Nat), vs = [.ref p] ∧ At2 H p u ∧ u.1 ≤ u.2 ∧ u.2 ≤ 4 ∧ Q (.bl true) H
theorem ok_isColumn (T : Txt K mg) : FnOk P w K mg base CX0 3 T.isColumn.f T.isColumn.fd ["value"] spIsColumn := by
  refine T.isColumn.F.ok scIsColumn (fun vs H Q E h => ?_) (fun cdv A outer s H vs Q E hr h => ?_)
  · obtain ⟨p, u, rfl, _⟩ := h
    rfl
  · obtain ⟨p, u, rfl, hp, h1, h2, q⟩ := h
    obtain ⟨tm, hm⟩ := T.most
    refine ⟨_, pss_cons (ps_if (PW.pt (pw_or (pt_not (pt_val (pe_isi (pv 0) T.z_isinstance T.z_tuple boot_tuple))) (pw_or1 (pt_cmpR op_ne (pe_callB call_len_seq (by rfl) T.z_len PySem.boot_len (pa_cons (pv 0) pa_nil)) pe_int (nomark _)))))
      (pss_never) pss_nil)
      (pss_one (ps_ret (pe_and (pe_c T.isIn (ok_isIn T) hr (pa_cons (pe_ix ix_tup (pv 0) pe_int (fun _ _ => rfl)) (pa_cons pe_int (pa_cons (pe_op op_sub (pe_glob (v := .int 60) (by rfl) hm ⟨_, rfl⟩) pe_int) pa_nil))))
        (pe_one (pe_c T.isIn (ok_isIn T) hr (pa_cons (pe_ix ix_tup (pv 0) pe_int (fun _ _ => rfl)) (pa_cons (pe_ix ix_tup (pv 0) pe_int (fun _ _ => rfl)) (pa_cons (pe_op op_sub (pe_glob (v := .int 60) (by rfl) hm ⟨_, rfl⟩) pe_int) pa_nil)))))))), ?_⟩
    refine ⟨.ref p, rfl, _, _, _, _, true, rfl, .ty _, .base (.tup hp), kit_ty (by decide +kernel), true, rfl, iteF ?_⟩
    refine ⟨.ref p, rfl, p, _, rfl, .inr (SqT.of hp), rfl, false, rfl, iteF ?_⟩
    refine ⟨.ref p, rfl, p, _, 0, _, rfl, rfl, SqT.of hp, rfl, 60, 1, rfl, rfl, (u.1 : Int), 0, 59, rfl, by omega, by omega, true, rfl, iteT ?_⟩
    exact ⟨.ref p, rfl, p, _, 1, _, rfl, rfl, SqT.of hp, rfl, .ref p, rfl, p, _, 0, _, rfl, rfl, SqT.of hp, rfl, 60, 1, rfl, rfl, (u.2 : Int), (u.1 : Int), 59, rfl, by omega, by omega, q⟩
def spFits : Sp := fun vs H Q _ => ∃ (p q : Addr) (u v : Nat × Nat), vs = [.ref p, .ref q] ∧ At2 H p u ∧ At2 H q v ∧ u.1 ≤ v.1 ∧ v.1 ≤ u.2 ∧ u.2 ≤ v.2 ∧ Q (.bl true) H
theorem ok_fits (T : Txt K mg) : FnOk P w K mg base CX0 1 T.fitsBehind.f T.fitsBehind.fd ["one", "other"] spFits := by
  refine T.fitsBehind.F.ok scFitsBehind (fun vs H Q E h => ?_) (fun cdv A outer s H vs Q E hr h => ?_)
  · obtain ⟨p, q, u, v, rfl, _⟩ := h
    rfl
  · obtain ⟨p, p', u, v, rfl, hp, hp', h1, h2, h3, q⟩ := h
    refine ⟨_, pss_one (ps_ret (pe_chain3 op_le op_le op_le (pe_ix ix_tup (pv 0) pe_int (fun _ _ => rfl)) (pe_ix ix_tup (pv 1) pe_int (fun _ _ => rfl)) (pe_ix ix_tup (pv 0) pe_int (fun _ _ => rfl)) (pe_ix ix_tup (pv 1) pe_int (fun _ _ => rfl)))), ?_⟩
    refine ⟨.ref p, rfl, p, _, 0, _, rfl, rfl, SqT.of hp, rfl, .ref p', rfl, p', _, 0, _, rfl, rfl, SqT.of hp', rfl, (u.1 : Int), (v.1 : Int), rfl, rfl, true, bt (by omega), iteT ?_⟩
    refine ⟨.ref p, rfl, p, _, 1, _, rfl, rfl, SqT.of hp, rfl, (v.1 : Int), (u.2 : Int), rfl, rfl, true, bt (by omega), iteT ?_⟩
    exact ⟨.ref p', rfl, p', _, 1, _, rfl, rfl, SqT.of hp', rfl, (u.2 : Int), (v.2 : Int), rfl, rfl, bq (by omega) q⟩
end
end KX
end L2
namespace L2
namespace KX
open PySem PySem.W PySem.Spec PyProof.Rows
open KL
section
variable {P : Program} {w : World} {K : PySem.W.Frag} {mg : Str → Option Value} {base : Heap}
def spNeed : Sp := fun vs H Q _ => ∃ (a : Addr) (r : Rg), vs = [.ref a] ∧ RgAt H a r ∧ Reg r ∧ ∀ H', Same H H' → Q .non H'
theorem ok_need (T : Txt K mg) : FnOk P w K mg base CX0 4 T.needRegion.f T.needRegion.fd ["value"] spNeed := by
  refine T.needRegion.F.ok scNeedRegion (fun vs H Q E h => ?_) (fun cdv A outer s H vs Q E hr h => ?_)
  · obtain ⟨a, r, rfl, _⟩ := h
    rfl
  · obtain ⟨a, r, rfl, hA, hR, q⟩ := h
    obtain ⟨tm, hm⟩ := T.most
    have nd := scNeedRegion.nd
    refine ⟨_, (pss_cons (ps_if (PW.pt (pw_or (pt_not (pt_val (pe_isi (pv 0) T.z_isinstance T.z_tuple boot_tuple))) (pw_or1 (pt_not (pt_chain op_le op_le pe_int (pe_callB call_len_seq (by rfl) T.z_len PySem.boot_len (pa_cons (pv 0) pa_nil)) (pe_glob (v := .int 60) (by rfl) hm ⟨_, rfl⟩)))))) pss_never pss_nil)
      (pss_one (ps_for PassesOwn.never rfl (pi_enumT (by rfl) T.z_enumerate (pa_cons (pv 0) pa_nil)) (pg_tup rfl (pgs_cons (pg_name (i := 1) scNeedRegion.nd rfl (Or.inl rfl)) (pgs_cons (pg_name (i := 2) scNeedRegion.nd rfl (Or.inl rfl)) pgs_nil)))
      (pss_cons (ps_if (pt_not (pt_val (pe_c T.isColumn (ok_isColumn T) (hr.mono (by decide)) (pa_cons (pv 2) pa_nil)))) pss_never pss_nil)
      (pss_one (ps_if (PW.pt (pw_or (PW.pt (pw_and (pt_cmpR op_eq (pv 1) pe_int (nomark _)) (pw_and1 (pt_cmpR op_ne (pe_ix ix_tup (pv 2) pe_int (fun _ _ => rfl)) pe_int (nomark _))))) (pw_or1 (PW.pt (pw_and (pt_cmpR op_gt (pv 1) pe_int (nomark _)) (pw_and1 (pt_not (pt_val (pe_c T.fitsBehind (ok_fits T) (hr.mono (by decide)) (pa_cons (pe_ix ix_tup (pv 0) (pe_op op_sub (pv 1) pe_int) (fun _ _ => rfl)) (pa_cons (pv 2) pa_nil))))))))))) pss_never pss_nil)))))), ?_⟩
    obtain ⟨cs, h1, h2, h3⟩ := hA.col
    have hl := hR.pos
    have hl5 := hR.len
    refine ⟨.ref a, rfl, _, _, _, _, true, rfl, .ty _, .base (.tup h1), kit_ty (by decide +kernel), true, rfl, iteF ?_⟩
    refine ⟨.ref a, rfl, a, _, rfl, .inr (SqT.of h1), 1, (((cs.map V.ref).length : Nat) : Int), rfl, rfl, true, bt (by rw [h2]; omega), iteT ⟨(((cs.map V.ref).length : Nat) : Int), 60, rfl, rfl, true, bt (by rw [h2]; omega), iteF ?_⟩⟩
    refine ⟨.ref a, rfl, a, cs.map V.ref, rfl, SqT.of h1, for_it (walk_enumT (xs := cs.map V.ref)) (fun i σ H' => ∃ y1 y2, σ = [some (.ref a), y1, y2] ∧ Same H H') ⟨none, none, rfl, Same.refl H⟩ (fun i σ H' _ h => ?_) (fun i x σ H1 H2 hi h y => ?_) (fun σ H' h => ?_)⟩
    · obtain ⟨_, _, _, sm⟩ := h
      exact Same.seqT sm (SqT.of h1)
    · obtain ⟨y1, y2, rfl, sm⟩ := h
      obtain ⟨t, x1, x2, rfl, nt, rfl, e1, e2⟩ := y
      cases e1
      rw [h2] at hi
      obtain ⟨c, e3, e4⟩ := h3 i hi
      obtain rfl : x2 = .ref c := Option.some.inj (e2.symm.trans e3)
      have sm2 : Same H (upd H1 t (.tup [.int (i : Nat), .ref c])) := sm.trans (Same.new nt)
      have hc := sm2 _ _ e4
      have hcol := hR.col i hi
      refine ⟨t, _, rfl, SqT.of upd_same, rfl, _, _, rfl, _, _, rfl, rfl, ?_⟩
      refine ⟨.ref c, rfl, c, (clo r i, chi r i), rfl, hc, hcol.1, hcol.2, true, rfl, iteF ?_⟩
      refine ⟨.int (i : Nat), rfl, rfl, _, rfl, ?_⟩
      by_cases hi0 : i = 0
      · subst hi0
        refine iteT ⟨.ref c, rfl, c, _, 0, _, rfl, rfl, SqT.of hc, rfl, rfl, _, rfl, ?_⟩
        have f0 : clo r 0 = 0 := hR.first
        rw [show (V.int ((clo r 0 : Nat) : Int)) = V.int 0 by rw [f0]; rfl]
        refine iteF ⟨.int ((0 : Nat) : Int), rfl, ((0 : Nat) : Int), 0, rfl, rfl, false, rfl, iteF ?_⟩
        exact ⟨_, _, rfl, sm2⟩
      · have e0 : decide (V.int ((i : Nat) : Int) = V.int 0) = false := decide_eq_false fun z => by
          have := V.int.inj z
          omega
        rw [e0]
        refine iteF (iteF ⟨.int (i : Nat), rfl, ((i : Nat) : Int), 0, rfl, rfl, true, bt (by omega), iteT ?_⟩)
        obtain ⟨c', e3', e4'⟩ := h3 (i - 1) (by omega)
        have hst := hR.step (i - 1) (by omega)
        rw [show i - 1 + 1 = i by omega] at hst
        refine ⟨.ref a, rfl, .int (i : Nat), rfl, ((i : Nat) : Int), 1, rfl, rfl, a, _, ((i : Nat) : Int) - 1, .ref c', rfl, rfl, Same.seqT sm2 (SqT.of h1), at_of (j := i - 1) (by omega) e3', ?_⟩
        refine ⟨.ref c, rfl, c', c, (clo r (i - 1), chi r (i - 1)), (clo r i, chi r i), rfl, sm2 _ _ e4', hc, hst.1, hst.2.1, hst.2.2, true, rfl, iteF ?_⟩
        exact ⟨_, _, rfl, sm2⟩
    · obtain ⟨_, _, _, sm⟩ := h
      exact q H' sm
end
end KX
end L2
namespace L2
namespace KX
open PySem PySem.W PySem.Spec PyProof.Rows
open KL
theorem at_last {α : Type} {xs : List α} {v : α} {n : Nat} (hn : xs.length = n + 1) (h : xs[n]? = some v) : atI xs (-1) = some v := by
  have e : ixN xs.length (-1) = some n := by
    unfold ixN
    rw [if_neg (by decide), if_pos (by omega)]
    congr 1
    omega
  unfold atI
  rw [e]
  exact h
/-! ### a comprehension of two clauses over walks -/
section
variable {J J1 : It} {n n1 : Nat} {G G1 : Hp → Prop} {Y Y1 : Nat → Hp → V → Hp → Prop}
def Inner (J1 : It) (g1 : TG) (tt1 : TT) (te : TE) (vs1 : List Nat) (D : Addr) (σ2 : St) (Nx : Hp → Prop) (H4 : Hp) : Prop :=
  ∃ W1 : Nat → Nat → Hp → Prop, (∃ m, W1 0 m H4) ∧ ∀ j k H, W1 j k H →
    (J1.stop j H ∧ Nx H) ∨ (J1.go j H ∧ ∃ Nx1 : Hp → Prop, (∀ H', Nx1 H' → ∃ k', k' < k ∧ W1 (j + 1) k' H') ∧ ∀ x H', J1.yld j H x H' → g1 x (wipe σ2 vs1) H' fun σ3 H5 => wipe σ3 vs1 = wipe σ2 vs1 ∧ tt1 σ3 H5 fun b H6 =>
      if b = true then te σ3 H6 fun y H7 => ∃ acc, H7 D = some (.lst acc) ∧ acc.length < sizeLine ∧ Nx1 (upd H7 D (.lst (acc ++ [y]))) else Nx1 H6)
theorem lc2_in (w : Walk J1 n1 G1 Y1) {g1 : TG} {tt1 : TT} {te : TE} {vs1 : List Nat} {D : Addr} {σ2 : St} {Nx : Hp → Prop} {H4 : Hp} (Pv : Nat → Hp → Prop) (h0 : Pv 0 H4) (hG : ∀ i H, i ≤ n1 → Pv i H → G1 H)
    (hs : ∀ i x H H', i < n1 → Pv i H → Y1 i H x H' → g1 x (wipe σ2 vs1) H' fun σ3 H5 => wipe σ3 vs1 = wipe σ2 vs1 ∧ tt1 σ3 H5 fun b H6 =>
      if b = true then te σ3 H6 fun y H7 => ∃ acc, H7 D = some (.lst acc) ∧ acc.length < sizeLine ∧ Pv (i + 1) (upd H7 D (.lst (acc ++ [y]))) else Pv (i + 1) H6) (hd : ∀ H, Pv n1 H → Nx H) : Inner J1 g1 tt1 te vs1 D σ2 Nx H4 := by
  refine ⟨fun i m H => m = n1 - i ∧ i ≤ n1 ∧ Pv i H, ⟨n1, by simp, Nat.zero_le _, h0⟩, ?_⟩
  rintro i m H ⟨rfl, hi, p⟩
  have q := hG i H hi p
  by_cases hlt : i < n1
  · exact .inr ⟨w.goes i H hlt q, Pv (i + 1), fun H' p' => ⟨n1 - (i + 1), by omega, rfl, hlt, p'⟩, fun x H' y => hs i x H H' hlt p (w.yields i H x H' hlt q y)⟩
  · have e : i = n1 := by omega
    subst e
    exact .inl ⟨w.stops H q, hd H p⟩
theorem lc2_out (w : Walk J n G Y) {g g1 : TG} {tt tt1 : TT} {wi1 : TI} {te : TE} {vs vs1 : List Nat} {σ : St} {H1 : Hp} {D : Addr} {Qd : Hp → Prop} (Pv : Nat → Hp → Prop) (h0 : Pv 0 (upd H1 D (.lst []))) (hG : ∀ i H, i ≤ n → Pv i H → G H)
    (hs : ∀ i x H H', i < n → Pv i H → Y i H x H' → g x (wipe σ vs) H' fun σ2 H2 => wipe σ2 vs = wipe σ vs ∧ tt σ2 H2 fun b H3 =>
      if b = true then wi1 σ2 H3 fun J1 H4 => Inner J1 g1 tt1 te vs1 D σ2 (Pv (i + 1)) H4 else Pv (i + 1) H3) (hd : ∀ H, Pv n H → Qd H) :
    ∃ W : Nat → Nat → Hp → Prop, (∃ m, W 0 m (upd H1 D (.lst []))) ∧ ∀ i m H, W i m H →
      (J.stop i H ∧ Qd H) ∨ (J.go i H ∧ ∃ Nx : Hp → Prop, (∀ H', Nx H' → ∃ m', m' < m ∧ W (i + 1) m' H') ∧ ∀ x H', J.yld i H x H' → g x (wipe σ vs) H' fun σ2 H2 => wipe σ2 vs = wipe σ vs ∧ tt σ2 H2 fun b H3 =>
        if b = true then wi1 σ2 H3 fun J1 H4 => Inner J1 g1 tt1 te vs1 D σ2 Nx H4 else Nx H3) := by
  refine ⟨fun i m H => m = n - i ∧ i ≤ n ∧ Pv i H, ⟨n, by simp, Nat.zero_le _, h0⟩, ?_⟩
  rintro i m H ⟨rfl, hi, p⟩
  have q := hG i H hi p
  by_cases hlt : i < n
  · exact .inr ⟨w.goes i H hlt q, Pv (i + 1), fun H' p' => ⟨n - (i + 1), by omega, rfl, hlt, p'⟩, fun x H' y => hs i x H H' hlt p (w.yields i H x H' hlt q y)⟩
  · have e : i = n := by omega
    subst e
    exact .inl ⟨w.stops H q, hd H p⟩
end

section
variable {P : Program} {w : World} {K : PySem.W.Frag} {mg : Str → Option Value} {base : Heap}
def spEnd : Sp := fun vs H Q _ => ∃ (a : Addr) (r : Rg), vs = [.ref a] ∧ RgAt H a r ∧ Reg r ∧ ∀ H' p, Same H H' → H p = none → At2 H' p (fin r) → Q (.ref p) H'
theorem ok_end (T : Txt K mg) : FnOk P w K mg base CX0 1 T.endOf.f T.endOf.fd ["region"] spEnd := by
  refine T.endOf.F.ok scEndOf (fun vs H Q E h => ?_) (fun cdv A outer s H vs Q E hr h => ?_)
  · obtain ⟨a, r, rfl, _⟩ := h
    rfl
  · obtain ⟨a, r, rfl, hA, hR, q⟩ := h
    refine ⟨_, (pss_one (ps_ret (pe_tup (pa_cons (pe_op op_sub (pe_callB call_len_seq (by rfl) T.z_len PySem.boot_len (pa_cons (pv 0) pa_nil)) pe_int) (pa_cons (pe_ix ix_tup (pe_ix ix_tup (pv 0) (pe_un un_neg pe_int) (fun _ _ => rfl)) pe_int (fun _ _ => rfl)) pa_nil))))), ?_⟩
    obtain ⟨cs, h1, h2, h3⟩ := hA.col
    have hl := hR.pos
    obtain ⟨c, e3, e4⟩ := h3 (r.length - 1) (by omega)
    refine ⟨.ref a, rfl, a, _, rfl, .inr (SqT.of h1), (((cs.map V.ref).length : Nat) : Int), 1, rfl, rfl, .ref a, rfl, 1, rfl, a, _, -1, .ref c, rfl, rfl, SqT.of h1, at_last (n := r.length - 1) (by rw [h2]; omega) e3, c, _, 1, _, rfl, rfl, SqT.of e4, rfl, by show 2 ≤ sizeLine; decide, fun p hp => ?_⟩
    refine q _ p (Same.new hp) hp ?_
    unfold At2
    rw [upd_same]
    have e : (((cs.map V.ref).length : Nat) : Int) - 1 = ((r.length - 1 : Nat) : Int) := by rw [h2]; omega
    show some (HO.tup [.int ((((cs.map V.ref).length : Nat) : Int) - 1), _]) = _
    rw [e]
    rfl
def spOpen : Sp := fun vs H Q _ => ∃ (a p : Addr) (r : Rg) (u : Spn), vs = [.ref a, .ref p] ∧ RgAt H a r ∧ At2 H p u ∧ Q (.bl (opn r u)) H
theorem ok_open (T : Txt K mg) : FnOk P w K mg base CX0 1 T.isOpen.f T.isOpen.fd ["region", "span"] spOpen := by
  refine T.isOpen.F.ok scIsOpen (fun vs H Q E h => ?_) (fun cdv A outer s H vs Q E hr h => ?_)
  · obtain ⟨a, p, r, u, rfl, _⟩ := h
    rfl
  · obtain ⟨a, p, r, u, rfl, hA, hp, q⟩ := h
    refine ⟨_, (pss_one (ps_ret (pe_and (pe_chain op_le op_lt pe_int (pe_ix ix_tup (pv 1) pe_int (fun _ _ => rfl)) (pe_callB call_len_seq (by rfl) T.z_len PySem.boot_len (pa_cons (pv 0) pa_nil))) (pe_one (pe_chain op_le op_le (pe_ix ix_tup (pe_ix ix_tup (pv 0) (pe_ix ix_tup (pv 1) pe_int (fun _ _ => rfl)) (fun _ _ => rfl)) pe_int (fun _ _ => rfl)) (pe_ix ix_tup (pv 1) pe_int (fun _ _ => rfl)) (pe_ix ix_tup (pe_ix ix_tup (pv 0) (pe_ix ix_tup (pv 1) pe_int (fun _ _ => rfl)) (fun _ _ => rfl)) pe_int (fun _ _ => rfl))))))), ?_⟩
    obtain ⟨cs, h1, h2, h3⟩ := hA.col
    refine ⟨.ref p, rfl, p, _, 0, _, rfl, rfl, SqT.of hp, rfl, 0, (u.1 : Int), rfl, rfl, true, bt (by omega), iteT ⟨.ref a, rfl, a, _, rfl, .inr (SqT.of h1), (u.1 : Int), (((cs.map V.ref).length : Nat) : Int), rfl, rfl, _, rfl, ite2 (fun e => ?_) (fun e => ?_)⟩⟩
    · have hx : u.1 < r.length := by
        have := of_decide_eq_true e
        rw [h2] at this
        omega
      obtain ⟨c, e3, e4⟩ := h3 u.1 hx
      refine ⟨.ref a, rfl, .ref p, rfl, p, _, 0, _, rfl, rfl, SqT.of hp, rfl, a, _, (u.1 : Int), .ref c, rfl, rfl, SqT.of h1, atI_nat e3, c, _, 0, _, rfl, rfl, SqT.of e4, rfl, ?_⟩
      refine ⟨.ref p, rfl, p, _, 1, _, rfl, rfl, SqT.of hp, rfl, (clo r u.1 : Int), (u.2 : Int), rfl, rfl, _, rfl, ite2 (fun e5 => ?_) (fun e5 => ?_)⟩
      · have hy : clo r u.1 ≤ u.2 := by have := of_decide_eq_true e5; omega
        refine ⟨.ref a, rfl, .ref p, rfl, p, _, 0, _, rfl, rfl, SqT.of hp, rfl, a, _, (u.1 : Int), .ref c, rfl, rfl, SqT.of h1, atI_nat e3, c, _, 1, _, rfl, rfl, SqT.of e4, rfl, (u.2 : Int), (chi r u.1 : Int), rfl, rfl, ?_⟩
        have eo : opn r u = decide ((u.2 : Int) ≤ (chi r u.1 : Int)) := by
          unfold opn
          rw [decide_eq_true hx, decide_eq_true hy, Bool.true_and, Bool.true_and]
          by_cases h : u.2 ≤ chi r u.1
          · rw [decide_eq_true h, decide_eq_true (by omega)]
          · rw [decide_eq_false h, decide_eq_false (by omega)]
        rw [eo] at q
        exact q
      · have hy : ¬ clo r u.1 ≤ u.2 := fun z => e5 (decide_eq_true (by omega))
        have eo : opn r u = false := by
          unfold opn
          rw [decide_eq_false hy, Bool.false_and, Bool.and_false]
        rw [eo] at q
        exact q
    · have hx : ¬ u.1 < r.length := fun z => e (decide_eq_true (by rw [h2]; omega))
      have eo : opn r u = false := by
        unfold opn
        rw [decide_eq_false hx, Bool.false_and]
      rw [eo] at q
      exact q
/-- a pair under way: of numbers that are naturals -/
theorem at2_new {H : Hp} {p : Addr} {i j : Int} {u : Nat × Nat} (e1 : i = (u.1 : Int)) (e2 : j = (u.2 : Int)) : At2 (upd H p (.tup [.int i, .int j])) p u := by
  unfold At2
  rw [upd_same, e1, e2]
def spAfter : Sp := fun vs H Q _ => ∃ (p : Addr) (u : Spn) (c : Sg), vs = [.ref p, .str (sgS c)] ∧ At2 H p u ∧ ∀ H' p', Same H H' → H p' = none → At2 H' p' (after u c) → Q (.ref p') H'
theorem sg_L (c : Sg) : decide (V.str (sgS c) = V.str "L") = decide (c = Sg.L) := by cases c <;> decide
theorem ok_after (T : Txt K mg) : FnOk P w K mg base CX0 1 T.after.f T.after.fd ["span", "sign"] spAfter := by
  refine T.after.F.ok scAfter (fun vs H Q E h => ?_) (fun cdv A outer s H vs Q E hr h => ?_)
  · obtain ⟨p, u, c, rfl, _⟩ := h
    rfl
  · obtain ⟨p, u, c, rfl, hp, q⟩ := h
    refine ⟨_, (pss_one (ps_ret (pe_ifExp (pt_cmpR op_eq (pv 1) pe_str (nomark _)) (pe_tup (pa_cons (pe_op op_add (pe_ix ix_tup (pv 0) pe_int (fun _ _ => rfl)) pe_int) (pa_cons (pe_ix ix_tup (pv 0) pe_int (fun _ _ => rfl)) pa_nil))) (pe_tup (pa_cons (pe_ix ix_tup (pv 0) pe_int (fun _ _ => rfl)) (pa_cons (pe_op op_add (pe_ix ix_tup (pv 0) pe_int (fun _ _ => rfl)) pe_int) pa_nil)))))), ?_⟩
    refine ⟨.str (sgS c), rfl, rfl, _, rfl, ?_⟩
    rw [sg_L]
    cases c
    · refine iteT ⟨.ref p, rfl, p, _, 0, _, rfl, rfl, SqT.of hp, rfl, (u.1 : Int), 1, rfl, rfl, .ref p, rfl, p, _, 1, _, rfl, rfl, SqT.of hp, rfl, by show 2 ≤ sizeLine; decide, fun p' hp' => ?_⟩
      exact q _ p' (Same.new hp') hp' (at2_new (by show (u.1 : Int) + 1 = ((u.1 + 1 : Nat) : Int); omega) rfl)
    · refine iteF ⟨.ref p, rfl, p, _, 0, _, rfl, rfl, SqT.of hp, rfl, .ref p, rfl, p, _, 1, _, rfl, rfl, SqT.of hp, rfl, (u.2 : Int), 1, rfl, rfl, by show 2 ≤ sizeLine; decide, fun p' hp' => ?_⟩
      exact q _ p' (Same.new hp') hp' (at2_new rfl (by show (u.2 : Int) + 1 = ((u.2 + 1 : Nat) : Int); omega))
def spSteps : Sp := fun vs H Q _ => ∃ (a p : Addr) (r : Rg) (u : Spn), vs = [.ref a, .ref p] ∧ RgAt H a r ∧ At2 H p u ∧ ∀ H', Same H H' → Q (.str (wordS (stepsIn r u))) H'
theorem ok_steps (T : Txt K mg) : FnOk P w K mg base CX0 2 T.stepsIn.f T.stepsIn.fd ["region", "span"] spSteps := by
  refine T.stepsIn.F.ok scStepsIn (fun vs H Q E h => ?_) (fun cdv A outer s H vs Q E hr h => ?_)
  · obtain ⟨a, p, r, u, rfl, _⟩ := h
    rfl
  · obtain ⟨a, p, r, u, rfl, hA, hp, q⟩ := h
    refine ⟨_, (pss_cons (ps_asg (pv 1) (pg_tup rfl (pgs_cons (pg_name (i := 2) scStepsIn.nd rfl (Or.inl rfl)) (pgs_cons (pg_name (i := 3) scStepsIn.nd rfl (Or.inl rfl)) pgs_nil))))
      (pss_cons (ps_set (i := 4) scStepsIn.nd rfl (Or.inl rfl) (pe_ifExp (pt_val (pe_c T.isOpen (ok_open T) (hr.mono (by decide)) (pa_cons (pv 0) (pa_cons (pe_tup (pa_cons (pe_op op_add (pv 2) pe_int) (pa_cons (pv 3) pa_nil))) pa_nil)))) pe_str pe_str))
      (pss_one (ps_ret (pe_ifExp (pt_val (pe_c T.isOpen (ok_open T) (hr.mono (by decide)) (pa_cons (pv 0) (pa_cons (pe_tup (pa_cons (pv 2) (pa_cons (pe_op op_add (pv 3) pe_int) pa_nil))) pa_nil)))) (pe_op op_add_str (pv 4) pe_str) (pv 4)))))), ?_⟩
    refine ⟨.ref p, rfl, p, _, rfl, SqT.of hp, rfl, _, _, rfl, _, _, rfl, rfl, ?_⟩
    refine ⟨.ref a, rfl, .int (u.1 : Int), rfl, (u.1 : Int), 1, rfl, rfl, .int (u.2 : Int), rfl, by show 2 ≤ sizeLine; decide, fun p1 n1 => ?_⟩
    have s1 : Same H (upd H p1 (.tup [.int ((u.1 : Int) + 1), .int (u.2 : Int)])) := Same.new n1
    refine ⟨a, p1, r, (u.1 + 1, u.2), rfl, hA.same s1, at2_new (by show (u.1 : Int) + 1 = ((u.1 + 1 : Nat) : Int); omega) rfl, _, rfl, ?_⟩
    have fin : ∀ (o : Bool) (x : Str), x = (if o = true then "L" else "") → opn r (u.1 + 1, u.2) = o →
        (tRet (tIf (tB (tCall spOpen [] E0 (tCons (tVar 0) (tCons (tTup (tCons (tVar 2) (tCons (tOp (rI0 fun i j => V.int (i + j)) (tVar 3) (tC (V.int 1))) tNil))) tNil)))) (tOp (fun x y H Q => ∃ i j, x = V.str i ∧ y = V.str j ∧ i.length + j.length ≤ sizeLine ∧ Q (V.str (i ++ j)) H) (tVar 4) (tC (V.str "R"))) (tVar 4))) { nx := fun _ H' => Q .non H', rt := Q } [some (.ref a), some (.ref p), some (.int (u.1 : Int)), some (.int (u.2 : Int)), some (.str x)] (upd H p1 (.tup [.int ((u.1 : Int) + 1), .int (u.2 : Int)])) := by
      intro o x ex eo
      refine ⟨.ref a, rfl, .int (u.1 : Int), rfl, .int (u.2 : Int), rfl, (u.2 : Int), 1, rfl, rfl, by show 2 ≤ sizeLine; decide, fun p2 n2 => ?_⟩
      have s2 := s1.trans (Same.new (o := .tup [.int (u.1 : Int), .int ((u.2 : Int) + 1)]) n2)
      refine ⟨a, p2, r, (u.1, u.2 + 1), rfl, hA.same s2, at2_new rfl (by show (u.2 : Int) + 1 = ((u.2 + 1 : Nat) : Int); omega), _, rfl, ?_⟩
      have q2 := q _ s2
      unfold stepsIn at q2
      rw [eo] at q2
      cases h2 : opn r (u.1, u.2 + 1) with
      | true =>
        rw [h2] at q2
        refine iteT ⟨.str x, rfl, x, _, rfl, rfl, ?_, ?_⟩
        · rw [ex]
          cases o <;> decide
        · subst ex
          cases o
          · exact q2
          · exact q2
      | false =>
        rw [h2] at q2
        refine iteF ⟨.str x, rfl, ?_⟩
        subst ex
        cases o
        · exact q2
        · exact q2
    cases h1 : opn r (u.1 + 1, u.2) with
    | true => exact iteT (fin true _ rfl h1)
    | false => exact iteF (fin false _ rfl h1)
end
end KX
end L2
namespace L2
namespace KX
open PySem PySem.W PySem.Spec PyProof.Rows
open KL
/-- the spans of the first columns -/
def spansTo (r : Rg) (i : Nat) : List Spn := (List.range i).flatMap (colSp r)
theorem spansTo_succ (r : Rg) (i : Nat) : spansTo r (i + 1) = spansTo r i ++ colSp r i := by
  unfold spansTo
  rw [List.range_succ, List.flatMap_append]
  simp
theorem colSp_len (r : Rg) (x : Nat) : (colSp r x).length = chi r x + 1 - clo r x := by unfold colSp; simp
theorem colSp_take (r : Rg) (x j : Nat) (h : j < chi r x + 1 - clo r x) : (colSp r x).take (j + 1) = (colSp r x).take j ++ [(x, clo r x + j)] := by
  rw [List.take_add_one]
  congr 1
  unfold colSp
  rw [List.getElem?_map, List.getElem?_range h]
  rfl
theorem spansTo_len {r : Rg} (h : Reg r) : ∀ i, i ≤ r.length → (spansTo r i).length ≤ 5 * i
  | 0, _ => Nat.zero_le _
  | i + 1, hi => by
    rw [spansTo_succ, List.length_append, colSp_len]
    have := spansTo_len h i (by omega)
    have := h.col i (by omega)
    omega
theorem spans_len {r : Rg} (h : Reg r) : (spans r).length ≤ 25 := by
  have := spansTo_len h r.length (Nat.le_refl _)
  have := h.len
  have e : spans r = spansTo r r.length := rfl
  rw [e]
  omega
section
variable {P : Program} {w : World} {K : PySem.W.Frag} {mg : Str → Option Value} {base : Heap}
def spSpans : Sp := fun vs H Q _ => ∃ (a : Addr) (r : Rg), vs = [.ref a] ∧ RgAt H a r ∧ Reg r ∧ ∀ H' l, Same H H' → SpAt H' l (spans r) → Q (.ref l) H'
theorem ok_spans (T : Txt K mg) : FnOk P w K mg base CX0 1 T.spansOf.f T.spansOf.fd ["region"] spSpans := by
  refine T.spansOf.F.ok scSpansOf (fun vs H Q E h => ?_) (fun cdv A outer s H vs Q E hr h => ?_)
  · obtain ⟨a, r, rfl, _⟩ := h
    rfl
  · obtain ⟨a, r, rfl, hA, hR, q⟩ := h
    refine ⟨_, (pss_one (ps_ret (pe_lc2 (X := (cxOf CX0 P w K mg base nSpansOf "spans_of" (defScope sSpansOf) T.spansOf.f cdv A outer s H E).nox) (own := [("x", 1), ("column", 2), ("y", 3)]) (vs1 := [3]) rfl scSpansOf.nd (pi_enumT (by rfl) T.z_enumerate (pa_cons (pv 0) pa_nil)) (blkOk_by (N := nSpansOf) (sc := defScope sSpansOf) (own := [("x", 1), ("column", 2), ("y", 3)]) (by decide +kernel)) (by decide) (fun _ _ _ _ _ => (pg_tupK (K := K) (n := 2) rfl rfl (pgs_cons (pg_name (i := 1) scSpansOf.nd rfl (Or.inl rfl)) (pgs_cons (pg_name (i := 2) scSpansOf.nd rfl (Or.inl rfl)) pgs_nil)))) (fun _ _ _ _ _ => pts_nil) (fun _ _ _ _ _ => (pi_range2 (by rfl) T.z_range (pa_cons (pe_ix (ix_tupK (K := K) rfl) (pv 2) pe_int (fun _ _ => rfl)) (pa_cons (pe_op op_add (pe_ix (ix_tupK (K := K) rfl) (pv 2) pe_int (fun _ _ => rfl)) pe_int) pa_nil)))) (fun _ _ _ _ _ => (pg_name (i := 3) scSpansOf.nd rfl (Or.inl rfl))) (fun _ _ _ _ _ => pts_nil) (fun _ _ _ _ _ => (pe_tup (pa_cons (pv 1) (pa_cons (pv 3) pa_nil))))))), ?_⟩
    obtain ⟨cs, h1, h2, h3⟩ := hA.col
    refine ⟨.ref a, rfl, a, cs.map V.ref, rfl, SqT.of h1, fun D hD => lc2_out (walk_enumT (xs := cs.map V.ref)) (fun i H' => Same H H' ∧ SpAt H' D (spansTo r i)) ⟨Same.new hD, [], upd_same, .nil⟩ (fun i H' _ h => Same.seqT h.1 (SqT.of h1)) (fun i x H1 H2 hi h y => ?_) (fun H' h => ?_)⟩
    · obtain ⟨t, x1, x2, rfl, nt, rfl, e1, e2⟩ := y
      cases e1
      rw [h2] at hi
      obtain ⟨c, e3, e4⟩ := h3 i hi
      obtain rfl : x2 = .ref c := Option.some.inj (e2.symm.trans e3)
      obtain ⟨sm, us⟩ := h
      have sn : Same H1 (upd H1 t (.tup [.int (i : Nat), .ref c])) := Same.new nt
      have sm2 := sm.trans sn
      have hc := sm2 _ _ e4
      have hcol := hR.col i hi
      refine ⟨t, _, rfl, SqT.of upd_same, rfl, _, _, rfl, _, _, rfl, rfl, rfl, ?_⟩
      refine ⟨.ref c, rfl, c, _, 0, _, rfl, rfl, SqT.of hc, rfl, .ref c, rfl, c, _, 1, _, rfl, rfl, SqT.of hc, rfl, (chi r i : Int), 1, rfl, rfl, (clo r i : Int), (chi r i : Int) + 1, rfl, ⟨by omega, by omega, by omega, by omega⟩, ?_⟩
      have en : (((chi r i : Int) + 1) - (clo r i : Int)).toNat = chi r i + 1 - clo r i := by omega
      rw [en]
      refine lc2_in walk_range (fun j H' => Same H H' ∧ SpAt H' D (spansTo r i ++ (colSp r i).take j)) ⟨sm2, by rw [List.take_zero, List.append_nil]; exact us.same sn⟩ (fun _ _ _ _ => trivial) (fun j x H3 H4 hj h y => ?_) (fun H' h => ?_)
      · obtain ⟨rfl, rfl⟩ := y
        obtain ⟨sm3, cs3, hD3, hp3⟩ := h
        refine ⟨rfl, ?_⟩
        refine ⟨_, rfl, _, rfl, by show 2 ≤ sizeLine; decide, fun p np => ?_⟩
        have sn2 : Same H4 (upd H4 p (.tup [.int (i : Nat), .int ((clo r i : Int) + (j : Nat))])) := Same.new np
        refine ⟨cs3.map V.ref, sn2 _ _ hD3, ?_, Same.mut (sm3.trans sn2) hD, ?_⟩
        · rw [List.length_map, hp3.length, List.length_append, List.length_take, colSp_len]
          have := spansTo_len hR i (by omega)
          have := hR.len
          exact sz_lt (by omega)
        · rw [colSp_take r i j hj, ← List.append_assoc]
          exact SpAt.snoc (sn2 _ _ hD3) (Paired.mapP hp3 fun _ _ z => z.same sn2) (at2_new rfl (by show (clo r i : Int) + (j : Nat) = ((clo r i + j : Nat) : Int); omega))
      · obtain ⟨sm3, us3⟩ := h
        refine ⟨sm3, ?_⟩
        rw [spansTo_succ]
        rw [List.take_of_length_le (by rw [colSp_len]; exact Nat.le_refl _)] at us3
        exact us3
    · rw [h2] at h
      exact q H' D h.1 h.2
/-- the spans on the way of the first steps -/
def wayTo (w : List Sg) (i : Nat) : List Spn := (List.range (i + 1)).map fun j => pathEnd (0, 0) (w.take j)
theorem wayTo_succ (w : List Sg) (i : Nat) : wayTo w (i + 1) = wayTo w i ++ [pathEnd (0, 0) (w.take (i + 1))] := by
  unfold wayTo
  rw [List.range_succ, List.map_append]
  rfl
theorem wayTo_len (w : List Sg) (i : Nat) : (wayTo w i).length = i + 1 := by unfold wayTo; simp
theorem wayTo_get (w : List Sg) (i j : Nat) (h : j ≤ i) : (wayTo w i)[j]? = some (pathEnd (0, 0) (w.take j)) := by
  unfold wayTo
  rw [List.getElem?_map, List.getElem?_range (by omega)]
  rfl
theorem take_succ_of {w : List Sg} {i : Nat} {g : Sg} (h : w[i]? = some g) : w.take (i + 1) = w.take i ++ [g] := by
  rw [List.take_add_one, h]
  rfl
def spSpansOn : Sp := fun vs H Q _ => ∃ ww : List Sg, vs = [.str (wordS ww)] ∧ ww.length ≤ 1000 ∧ ∀ H' l, Same H H' → SpAt H' l (wayTo ww ww.length) → Q (.ref l) H'
theorem ok_spansOn (T : Txt K mg) : FnOk P w K mg base CX0 2 T.spansOn.f T.spansOn.fd ["word"] spSpansOn := by
  refine T.spansOn.F.ok scSpansOn (fun vs H Q E h => ?_) (fun cdv A outer s H vs Q E hr h => ?_)
  · obtain ⟨ww, rfl, _⟩ := h
    rfl
  · obtain ⟨ww, rfl, hl, q⟩ := h
    refine ⟨_, (pss_cons (ps_set (i := 1) scSpansOn.nd rfl (Or.inl rfl) (pe_lst (pa_cons (pe_tup (pa_cons pe_int (pa_cons pe_int pa_nil))) pa_nil)))
      (pss_cons (ps_for PassesOwn.never rfl (pi_str (pv 0)) (pg_name (i := 2) scSpansOn.nd rfl (Or.inl rfl))
      (pss_one (ps_expr (pe_bm PySem.F.plainAttrs_list PySem.F.slot_list_append PySem.F.type_list_append mt_append (pv 1) (pa_cons (pe_c T.after (ok_after T) (hr.mono (by decide)) (pa_cons (pe_ix ix_list (pv 1) (pe_un un_neg pe_int) (fun _ _ => rfl)) (pa_cons (pv 2) pa_nil))) pa_nil)))))
      (pss_one (ps_ret (pv 1))))), ?_⟩
    refine ⟨by show 2 ≤ sizeLine; decide, fun p0 n0 => ⟨by show 1 ≤ sizeLine; decide, fun l nl => ?_⟩⟩
    have s0 : Same H (upd H p0 (.tup [.int 0, .int 0])) := Same.new n0
    have s1 : Same H (upd (upd H p0 (.tup [.int 0, .int 0])) l (.lst [.ref p0])) := s0.trans (Same.new nl)
    have nlH : H l = none := Same.free s0 nl
    refine ⟨.str (wordS ww), rfl, wordS ww, rfl, for_it walk_str (fun i σ H' => ∃ y, σ = [some (.str (wordS ww)), some (.ref l), y] ∧ Same H H' ∧ SpAt H' l (wayTo ww i)) ⟨none, rfl, s1, [p0], upd_same, .cons ?_ .nil⟩ (fun _ _ _ _ _ => trivial) (fun i x σ H1 H2 hi h y => ?_) (fun σ H' h => ?_)⟩
    · unfold At2
      rw [upd_ne (ne_of_none upd_same nl), upd_same]
      rfl
    · obtain ⟨y0, rfl, sm, us⟩ := h
      obtain ⟨rfl, c, hc, rfl⟩ := y
      obtain ⟨g, hg, eg⟩ := word_sign hc
      rw [eg]
      obtain ⟨cs, h1, h2⟩ := us
      obtain ⟨c0, e1, e2⟩ := paired_get' h2 (wayTo_get ww i i (Nat.le_refl _))
      have hlen : (cs.map V.ref).length = i + 1 := by rw [List.length_map, h2.length, wayTo_len]
      rw [wordS_size] at hi
      refine ⟨.ref l, rfl, .inl ⟨rfl, _, SqL.of h1⟩, .ref l, rfl, 1, rfl, l, _, -1, .ref c0, rfl, rfl, SqL.of h1, at_last hlen (by rw [List.getElem?_map, e1]; rfl), .str (sgS g), rfl, c0, _, g, rfl, e2, fun H3 p s3 np hp => ?_⟩
      refine ⟨l, _, _, rfl, rfl, s3 _ _ h1, by rw [hlen]; exact sz_lt (by omega), ⟨_, rfl, Same.mut (sm.trans s3) nlH, ?_⟩⟩
      rw [wayTo_succ, take_succ_of hg, pathEnd_snoc]
      exact SpAt.snoc (s3 _ _ h1) (Paired.mapP h2 fun _ _ z => z.same s3) hp
    · obtain ⟨y0, rfl, sm, us⟩ := h
      rw [wordS_size] at us
      exact ⟨.ref l, rfl, q H' l sm us⟩
end
end KX
end L2
namespace L2
namespace KX
open PySem PySem.W PySem.Spec PyProof.Rows
open KL
theorem dp2 {K : PySem.W.Frag} {H : Hp} {p : Addr} {u : Nat × Nat} (h : At2 H p u) : Dp K H (.ref p) (.tuple [.int (u.1 : Int), .int (u.2 : Int)]) := .tup (SqT.of h) (.cons (.int _) (.cons (.int _) .nil))
theorem shaped2 (i j : Int) : SeqAt.shaped (.tuple [.int i, .int j]) = true := by rfl
theorem lay2 (i j : Int) : (PyData.tuple [.int i, .int j]).canLay0 = true := by rfl
theorem in_LR (c : Sg) : decide (code c ∈ ("LR" : Str).cps.toList) = true := by cases c <;> decide
theorem inReg_take {r : Rg} : ∀ (w : List Sg) (u : Spn) (i : Nat), inReg r u w → inReg r u (w.take i)
  | [], _, i, _ => by rw [List.take_nil]; trivial
  | _ :: _, _, 0, _ => trivial
  | c :: w, u, i + 1, h => ⟨h.1, inReg_take w (after u c) i h.2⟩
/-- the next span of a play is open -/
theorem play_open {r : Rg} {w : List Sg} (h : inReg r (0, 0) w) {i : Nat} {g : Sg} (hg : w[i]? = some g) : opn r (after (pathEnd (0, 0) (w.take i)) g) = true := by
  have q := inReg_take w (0, 0) (i + 1) h
  rw [take_succ_of hg] at q
  exact ((inReg_snoc _ _ _).mp q).2
section
variable {P : Program} {w : World} {K : PySem.W.Frag} {mg : Str → Option Value} {base : Heap}
def spNeedPlay : Sp := fun vs H Q _ => ∃ (a : Addr) (r : Rg) (ww : List Sg), vs = [.ref a, .str (wordS ww)] ∧ RgAt H a r ∧ Reg r ∧ IsPlay r ww ∧ ∀ H', Same H H' → Q .non H'
theorem ok_needPlay (T : Txt K mg) : FnOk P w K mg base CX0 2 T.needPlay.f T.needPlay.fd ["region", "word"] spNeedPlay := by
  refine T.needPlay.F.ok scNeedPlay (fun vs H Q E h => ?_) (fun cdv A outer s H vs Q E hr h => ?_)
  · obtain ⟨a, r, ww, rfl, _⟩ := h
    rfl
  · obtain ⟨a, r, ww, rfl, hA, hR, hp, q⟩ := h
    have hu : (A.deeper (envOfC (Str.ofString "need_play") (defScope sNeedPlay) s.heap.objs.size T.needPlay.f cdv)).units + 64 < cLine := hr.units
    refine ⟨_, (pss_cons (ps_if (pt_not (pt_val (pe_isi (pv 1) T.z_isinstance T.z_str boot_str))) pss_never pss_nil)
      (pss_cons (ps_set (i := 2) scNeedPlay.nd rfl (Or.inl rfl) (pe_tup (pa_cons pe_int (pa_cons pe_int pa_nil))))
      (pss_cons (ps_for PassesOwn.never rfl (pi_enumS (by rfl) T.z_enumerate (pa_cons (pv 1) pa_nil)) (pg_tup rfl (pgs_cons (pg_name (i := 3) scNeedPlay.nd rfl (Or.inl rfl)) (pgs_cons (pg_name (i := 4) scNeedPlay.nd rfl (Or.inl rfl)) pgs_nil)))
      (pss_cons (ps_if (PW.pt (pw_or (pt_cmpR op_notIn_sign (pv 4) pe_str (by rfl)) (pw_or1 (pt_not (pt_val (pe_c T.isOpen (ok_open T) (hr.mono (by decide)) (pa_cons (pv 0) (pa_cons (pe_c T.after (ok_after T) (hr.mono (by decide)) (pa_cons (pv 2) (pa_cons (pv 4) pa_nil))) pa_nil)))))))) pss_never pss_nil)
      (pss_one (ps_set (i := 2) scNeedPlay.nd rfl (Or.inl rfl) (pe_c T.after (ok_after T) (hr.mono (by decide)) (pa_cons (pv 2) (pa_cons (pv 4) pa_nil)))))))
      (pss_one (ps_if (pt_cmpR (op_neD hu) (pv 2) (pe_c T.endOf (ok_end T) (hr.mono (by decide)) (pa_cons (pv 0) pa_nil)) (nomark _)) pss_never pss_nil))))), ?_⟩
    refine ⟨.str (wordS ww), rfl, _, _, _, _, true, rfl, .ty _, .base (.str _), kit_ty (by decide +kernel), true, rfl, iteF ?_⟩
    refine ⟨by show 2 ≤ sizeLine; decide, fun p0 n0 => ?_⟩
    refine ⟨.str (wordS ww), rfl, wordS ww, rfl, for_it walk_enumS (fun i σ H' => ∃ y3 y4 p, σ = [some (.ref a), some (.str (wordS ww)), some (.ref p), y3, y4] ∧ Same H H' ∧ At2 H' p (pathEnd (0, 0) (ww.take i))) ⟨none, none, p0, rfl, Same.new n0, at2_new rfl rfl⟩ (fun _ _ _ _ _ => trivial) (fun i x σ H1 H2 hi h y => ?_) (fun σ H' h => ?_)⟩
    · obtain ⟨y3, y4, p, rfl, sm, hpp⟩ := h
      obtain ⟨t, c, rfl, nt, rfl, hc⟩ := y
      obtain ⟨g, hg, eg⟩ := word_sign hc
      have ec : c = code g := by
        have := congrArg Str.cps eg
        have : (#[c] : Array Nat) = #[code g] := this
        simpa using this
      subst ec
      have sm2 := sm.trans (Same.new (o := .tup [.int (i : Nat), .str ⟨#[code g]⟩]) nt)
      have hp2 : At2 (upd H1 t (.tup [.int (i : Nat), .str ⟨#[code g]⟩])) p (pathEnd (0, 0) (ww.take i)) := hpp.same (Same.new nt)
      refine ⟨t, _, rfl, SqT.of upd_same, rfl, _, _, rfl, _, _, rfl, rfl, ?_⟩
      refine ⟨.str ⟨#[code g]⟩, rfl, code g, "LR", rfl, rfl, _, rfl, ?_⟩
      rw [in_LR]
      refine iteF ⟨.ref a, rfl, .ref p, rfl, .str ⟨#[code g]⟩, rfl, p, _, g, rfl, hp2, fun H3 p3 s3 n3 hp3 => ?_⟩
      refine ⟨a, p3, r, _, rfl, hA.same (sm2.trans s3), hp3, ?_⟩
      rw [play_open hp.1 hg]
      refine ⟨true, rfl, iteF ?_⟩
      refine ⟨.ref p, rfl, .str ⟨#[code g]⟩, rfl, p, _, g, rfl, hp2.same s3, fun H4 p4 s4 n4 hp4 => ?_⟩
      refine ⟨_, _, p4, rfl, (sm2.trans s3).trans s4, ?_⟩
      rw [take_succ_of hg, pathEnd_snoc]
      exact hp4
    · obtain ⟨y3, y4, p, rfl, sm, hpp⟩ := h
      rw [wordS_size, List.take_of_length_le (Nat.le_refl _), hp.2] at hpp
      refine ⟨.ref p, rfl, .ref a, rfl, a, r, rfl, hA.same sm, hR, fun H2 p2 s2 n2 hp2 => ?_⟩
      refine ⟨_, _, dp2 (hpp.same s2), dp2 hp2, shaped2 _ _, shaped2 _ _, _, rfl, ?_⟩
      rw [SeqAt.eqv_refl _ (lay2 _ _)]
      exact iteF (q H2 (sm.trans s2))
theorem side_in (d : Option Sg) (c : Sg) : inV (.str (sdS d)) [.str "", .str (sgS c)] = decide (d = none ∨ d = some c) := by
  rcases d with _ | _ | _ <;> cases c <;> decide
def spCost : Sp := fun vs H Q _ => ∃ (p : Addr) (u : Spn) (d : Option Sg) (c : Sg), vs = [.ref p, .str (sdS d), .str (sgS c)] ∧ At2 H p u ∧ ∀ H', Same H H' → Q (.int (cost u d c)) H'
theorem ok_cost (T : Txt K mg) : FnOk P w K mg base CX0 1 T.costOf.f T.costOf.fd ["span", "side", "sign"] spCost := by
  refine T.costOf.F.ok scCostOf (fun vs H Q E h => ?_) (fun cdv A outer s H vs Q E hr h => ?_)
  · obtain ⟨p, u, d, c, rfl, _⟩ := h
    rfl
  · obtain ⟨p, u, d, c, rfl, hp, q⟩ := h
    refine ⟨_, (pss_one (ps_ret (pe_ifExp (pt_cmpR op_in_seq (pv 1) (pe_tup (pa_cons pe_str (pa_cons (pv 2) pa_nil))) (by rfl)) pe_int (pe_op op_add (pe_callB (cr_sumT rfl) (by rfl) T.z_sum boot_sum (pa_cons (pv 0) pa_nil)) pe_int)))), ?_⟩
    refine ⟨.str (sdS d), rfl, .str (sgS c), rfl, by show 2 ≤ sizeLine; decide, fun p1 n1 => ?_⟩
    have s1 : Same H (upd H p1 (.tup [.str "", .str (sgS c)])) := Same.new n1
    refine ⟨p1, _, rfl, .inr (SqT.of upd_same), rfl, rfl, _, rfl, ?_⟩
    have q1 := q _ s1
    unfold cost at q1
    rw [show (if false = true then !inV (.str (sdS d)) [.str "", .str (sgS c)] else inV (.str (sdS d)) [.str "", .str (sgS c)]) = decide (d = none ∨ d = some c) from (if_neg Bool.false_ne_true).trans (side_in d c)]
    by_cases h : d = none ∨ d = some c
    · rw [if_pos h] at q1
      rw [decide_eq_true h]
      exact iteT q1
    · rw [if_neg h] at q1
      rw [decide_eq_false h]
      refine iteF ⟨.ref p, rfl, p, [(u.1 : Int), (u.2 : Int)], rfl, SqT.of (hp.same s1), ([(u.1 : Int), (u.2 : Int)] : List Int).sum, 1, rfl, rfl, ?_⟩
      have e : ([(u.1 : Int), (u.2 : Int)] : List Int).sum + 1 = (u.1 : Int) + (u.2 : Int) + 1 := by
        simp [List.sum_cons]
      show Q (.int (([(u.1 : Int), (u.2 : Int)] : List Int).sum + 1)) _
      rw [e]
      exact q1
def spWalked : Sp := fun vs H Q _ => ∃ (a : Addr) (r : Rg) (ww : List Sg), vs = [.ref a, .str (wordS ww)] ∧ RgAt H a r ∧ Reg r ∧ IsPlay r ww ∧ ∀ H', Same H H' → Q (.int (walk ww)) H'
theorem play_short {r : Rg} (h : Reg r) {w : List Sg} (p : IsPlay r w) : w.length ≤ 8 := by
  have e := (play_len h p.1).mp p
  have := fin_le h
  omega
theorem ok_walked (T : Txt K mg) : FnOk P w K mg base CX0 5 T.walked.f T.walked.fd ["region", "word"] spWalked := by
  refine T.walked.F.ok scWalked (fun vs H Q E h => ?_) (fun cdv A outer s H vs Q E hr h => ?_)
  · obtain ⟨a, r, ww, rfl, _⟩ := h
    rfl
  · obtain ⟨a, r, ww, rfl, hA, hR, hp, q⟩ := h
    refine ⟨_, (pss_cons (ps_expr (pe_c T.needRegion (ok_need T) (hr.mono (by decide)) (pa_cons (pv 0) pa_nil)))
      (pss_cons (ps_expr (pe_c T.needPlay (ok_needPlay T) (hr.mono (by decide)) (pa_cons (pv 0) (pa_cons (pv 1) pa_nil))))
      (pss_cons (ps_asg (pe_tup (pa_cons pe_str (pa_cons pe_int pa_nil))) (pg_tup rfl (pgs_cons (pg_name (i := 2) scWalked.nd rfl (Or.inl rfl)) (pgs_cons (pg_name (i := 3) scWalked.nd rfl (Or.inl rfl)) pgs_nil))))
      (pss_cons (ps_for PassesOwn.never rfl (pi_zipS (by rfl) T.z_zip (pa_cons (pe_c T.spansOn (ok_spansOn T) (hr.mono (by decide)) (pa_cons (pv 1) pa_nil)) (pa_cons (pv 1) pa_nil))) (pg_tup rfl (pgs_cons (pg_name (i := 4) scWalked.nd rfl (Or.inl rfl)) (pgs_cons (pg_name (i := 5) scWalked.nd rfl (Or.inl rfl)) pgs_nil)))
      (pss_cons (ps_aug (i := 3) scWalked.nd rfl (Or.inl rfl) (pe_c T.costOf (ok_cost T) (hr.mono (by decide)) (pa_cons (pv 4) (pa_cons (pv 2) (pa_cons (pv 5) pa_nil)))) ip_add)
      (pss_one (ps_set (i := 2) scWalked.nd rfl (Or.inl rfl) (pv 5)))))
      (pss_one (ps_ret (pv 3))))))), ?_⟩
    have hlen := play_short hR hp
    refine ⟨.ref a, rfl, a, r, rfl, hA, hR, fun H1 s1 => ?_⟩
    refine ⟨.ref a, rfl, .str (wordS ww), rfl, a, r, ww, rfl, hA.same s1, hR, hp, fun H2a s2a => ?_⟩
    refine ⟨by show 2 ≤ sizeLine; decide, fun pt nt => ⟨pt, _, rfl, SqT.of upd_same, rfl, _, _, rfl, _, _, rfl, rfl, ?_⟩⟩
    obtain ⟨H2, eH2⟩ : ∃ H2, H2 = upd H2a pt (.tup [.str "", .int 0]) := ⟨_, rfl⟩
    have s2 : Same H1 H2 := by rw [eH2]; exact s2a.trans (Same.new nt)
    rw [← eH2]
    refine ⟨.str (wordS ww), rfl, ww, rfl, by omega, fun H3 l s3 us => ?_⟩
    obtain ⟨cs, hl, hcs⟩ := us
    have ecs : (cs.map V.ref).length = ww.length + 1 := by rw [List.length_map, hcs.length, wayTo_len]
    refine ⟨.str (wordS ww), rfl, l, cs.map V.ref, wordS ww, rfl, SqL.of hl, for_it (walk_zipS (xs := cs.map V.ref) (by rw [wordS_size, ecs]; omega))
      (fun i σ H' => ∃ y4 y5, σ = [some (.ref a), some (.str (wordS ww)), some (.str (sdS (lastd none (ww.take i)))), some (.int (walk (ww.take i))), y4, y5] ∧ Same H3 H') ⟨none, none, rfl, Same.refl H3⟩ (fun i σ H' _ h => ?_) (fun i x σ H4 H5 hi h y => ?_) (fun σ H' h => ?_)⟩
    · obtain ⟨_, _, _, sm⟩ := h
      exact SqL.of (sm _ _ hl)
    · obtain ⟨y4, y5, rfl, sm⟩ := h
      obtain ⟨t, x1, c, rfl, nt, rfl, e1, e2⟩ := y
      obtain ⟨g, hg, eg⟩ := word_sign e2
      rw [eg]
      rw [wordS_size] at hi
      obtain ⟨c0, f1, f2⟩ := paired_get' hcs (wayTo_get ww ww.length i (by omega))
      obtain rfl : x1 = .ref c0 := by
        rw [List.getElem?_map, f1] at e1
        exact (Option.some.inj e1).symm
      have sm2 := sm.trans (Same.new (o := .tup [.ref c0, .str (sgS g)]) nt)
      refine ⟨t, _, rfl, SqT.of upd_same, rfl, _, _, rfl, _, _, rfl, rfl, ?_⟩
      refine ⟨.int (walk (ww.take i)), rfl, .ref c0, rfl, .str (sdS (lastd none (ww.take i))), rfl, .str (sgS g), rfl, c0, _, _, g, rfl, f2.same sm2, fun H6 s6 => ?_⟩
      refine ⟨_, _, rfl, rfl, .str (sgS g), rfl, some (.ref c0), some (.str (sgS g)), ?_, sm2.trans s6⟩
      rw [take_succ_of hg, lastd_snoc]
      unfold walk
      rw [walkF_snoc]
      rfl
    · obtain ⟨y4, y5, rfl, sm⟩ := h
      rw [wordS_size, List.take_of_length_le (Nat.le_refl _)]
      exact ⟨_, rfl, q H' (((s1.trans s2).trans s3).trans sm)⟩
end
end KX
end L2
namespace L2
namespace KX
open PySem PySem.W PySem.Spec PyProof.Rows
open KL
/-! ### the table as a dict -/
def nk (k : NK) : NestedKey := .tup [.tup [.num (k.1.1 : Int), .num (k.1.2 : Int)], .text (sdS k.2)]
theorem nk_inj {a b : NK} (h : nk a = nk b) : a = b := by
  unfold nk at h
  injection h with h
  injection h with h1 h2
  injection h1 with h1
  injection h1 with h3 h4
  injection h3 with h3
  injection h4 with h4 _
  injection h4 with h4
  injection h2 with h2 _
  injection h2 with h2
  have e2 := sdS_inj h2
  exact Prod.ext (Prod.ext (by omega) (by omega)) e2
def Ent (H : Hp) : Option Addr → Option (Int × List Sg) → Prop
  | none, none => True
  | some c, some (n, w) => H c = some (.tup [.int n, .str (wordS w)])
  | _, _ => False
def Rep (H : Hp) (ys : List NE) (T : Tab) : Prop := ∀ k : NK, Ent H (nAt ys (nk k)) (T k)
/-- all but the dict at d stays -/
def Sd (d : Addr) (H H' : Hp) : Prop := ∀ b o, b ≠ d → H b = some o → H' b = some o
theorem Sd.refl (d : Addr) (H : Hp) : Sd d H H := fun _ _ _ h => h
theorem Sd.trans {d : Addr} {A B C : Hp} (a : Sd d A B) (b : Sd d B C) : Sd d A C := fun c o n h => b c o n (a c o n h)
theorem Sd.of {d : Addr} {H H' : Hp} (s : Same H H') : Sd d H H' := fun b o _ h => s b o h
theorem Sd.upd {d : Addr} {H : Hp} {o : HO} : Sd d H (upd H d o) := fun b u n h => by rw [upd_ne n]; exact h
/-- what stood ahead of the dict -/
theorem Sd.same {d : Addr} {H0 H H' : Hp} (s : Same H0 H) (n : H0 d = none) (k : Sd d H H') : Same H0 H' := fun b o h => k b o (fun e => by rw [e, n] at h; cases h) (s b o h)
section
variable {P : Program} {w : World} {d : Addr} {H H' : Hp} {ys : List NE}
theorem Sd.tup (k : Sd d H H') (hd : H d = some (dN P w d ys)) {b : Addr} {xs : List V} (h : H b = some (.tup xs)) : H' b = some (.tup xs) := k b _ (ne_of h hd fun z => nomatch z) h
theorem Sd.lst (k : Sd d H H') (hd : H d = some (dN P w d ys)) {b : Addr} {xs : List V} (h : H b = some (.lst xs)) : H' b = some (.lst xs) := k b _ (ne_of h hd fun z => nomatch z) h
theorem Sd.at2 (k : Sd d H H') (hd : H d = some (dN P w d ys)) {p : Addr} {u : Nat × Nat} (h : At2 H p u) : At2 H' p u := k.tup hd h
theorem Rep.sd {T : Tab} (k : Sd d H H') (hd : H d = some (dN P w d ys)) {zs : List NE} (h : Rep H zs T) : Rep H' zs T := fun j => by
  have q := h j
  revert q
  cases nAt zs (nk j) with
  | none => cases T j <;> exact fun q => q
  | some c =>
    cases T j with
    | none => exact fun q => q
    | some p => exact fun q => k.tup hd q
end
theorem Rep.put {H : Hp} {ys : List NE} {T : Tab} (h : Rep H ys T) {k : NK} {b q : Addr} {n : Int} {w : List Sg} (e : H q = some (.tup [.int n, .str (wordS w)])) : Rep H (nPut ys (nk k) b q) (tput T k (n, w)) := fun j => by
  rw [nAt_put]
  unfold tput
  by_cases ej : j = k
  · subst ej
    rw [if_pos rfl, if_pos rfl]
    exact e
  · rw [if_neg fun z => ej (nk_inj z), if_neg ej]
    exact h j
theorem nkat {H : Hp} {p b : Addr} {u : Spn} {d : Option Sg} (hp : At2 H p u) (hb : H b = some (.tup [.ref p, .str (sdS d)])) : NKat H b (nk (u, d)) := ⟨p, _, _, _, hb, hp, rfl⟩
theorem rep0 {H : Hp} {b q : Addr} (h : H q = some (.tup [.int 0, .str (wordS [])])) : Rep H [(nk ((0, 0), none), b, q)] T0 := fun k => by
  unfold T0
  by_cases e : k = ((0, 0), none)
  · subst e
    rw [if_pos rfl]
    exact h
  · rw [if_neg e]
    have : ¬ nk ((0, 0), none) = nk k := fun z => e (nk_inj z).symm
    have e2 : nAt [(nk ((0, 0), none), b, q)] (nk k) = none := by
      unfold nAt
      simp [this]
    rw [e2]
    trivial
theorem take_fold {α β : Type} (f : β → α → β) (l : List α) {i : Nat} {a : α} (h : l[i]? = some a) (b : β) : (l.take (i + 1)).foldl f b = f ((l.take i).foldl f b) a := by
  rw [List.take_add_one, h, List.foldl_append]
  rfl
theorem steps_le (r : Rg) (u : Spn) : (stepsIn r u).length ≤ 2 := by
  unfold stepsIn
  split <;> split <;> decide
theorem side_at {k : Nat} {x : V} (h : ([.str "", .str "L", .str "R"] : List V)[k]? = some x) : ∃ d, sides[k]? = some d ∧ x = .str (sdS d) := by
  match k, h with
  | 0, h => exact ⟨none, rfl, (Option.some.inj h).symm⟩
  | 1, h => exact ⟨some .L, rfl, (Option.some.inj h).symm⟩
  | 2, h => exact ⟨some .R, rfl, (Option.some.inj h).symm⟩
  | n + 3, h => simp at h
section
variable {P : Program} {w : World} {K : PySem.W.Frag} {mg : Str → Option Value} {base : Heap}
def spTable (P : Program) (w : World) : Sp := fun vs H Q _ => ∃ (a : Addr) (r : Rg) (m : Bool), vs = [.ref a, .bl m] ∧ RgAt H a r ∧ Reg r ∧ ∀ H' d ys, Same H H' → NDict P w H' d ys → Rep H' ys (table m r) → Q (.ref d) H'
/-- between two turns of the innermost loop -/
structure TabInv (P : Program) (w : World) (H1 H' : Hp) (d : Addr) (r : Rg) (T : Tab) (n : Nat) : Prop where
  sd : Sd d H1 H'
  ex : ∃ ys, NDict P w H' d ys ∧ Rep H' ys T ∧ ys.length ≤ n
  sound : Sound r T
theorem TabInv.more {H1 H2 H3 : Hp} {d : Addr} {r : Rg} {T : Tab} {n m : Nat} (h : TabInv P w H1 H2 d r T n) (s : Same H2 H3) (l : n ≤ m) : TabInv P w H1 H3 d r T m := by
  obtain ⟨ys, h1, h2, h3⟩ := h.ex
  exact ⟨h.sd.trans (Sd.of s), ⟨ys, h1.same s, h2.sd (Sd.of (d := d) s) h1.at_, by omega⟩, h.sound⟩
theorem ok_table (T : Txt K mg) : FnOk P w K mg base CX0 3 T.tableOf.f T.tableOf.fd ["region", "is_most"] (spTable P w) := by
  refine T.tableOf.F.ok scTableOf (fun vs H Q E h => ?_) (fun cdv A outer s H vs Q E hr h => ?_)
  · obtain ⟨a, r, m, rfl, _⟩ := h
    rfl
  · obtain ⟨a, r, m, rfl, hA, hR, q⟩ := h
    have hu : (A.deeper (envOfC (Str.ofString "table_of") (defScope sTableOf) s.heap.objs.size T.tableOf.f cdv)).units + 9 < cLine := by have := hr.un; omega
    refine ⟨_, (pss_cons (ps_set (i := 2) scTableOf.nd rfl (Or.inl rfl) (pe_ndispK (P := P) (w := w) rfl rfl hu (pe_tup (pa_cons (pe_tup (pa_cons pe_int (pa_cons pe_int pa_nil))) (pa_cons pe_str pa_nil))) (pe_tup (pa_cons pe_int (pa_cons pe_str pa_nil)))))
      (pss_cons (ps_for PassesOwn.never rfl (pi_list (pe_c T.spansOf (ok_spans T) (hr.mono (by decide)) (pa_cons (pv 0) pa_nil))) (pg_name (i := 3) scTableOf.nd rfl (Or.inl rfl))
      (pss_one (ps_for PassesOwn.never rfl (pi_str (pe_c T.stepsIn (ok_steps T) (hr.mono (by decide)) (pa_cons (pv 0) (pa_cons (pv 3) pa_nil)))) (pg_name (i := 4) scTableOf.nd rfl (Or.inl rfl))
      (pss_cons (ps_set (i := 5) scTableOf.nd rfl (Or.inl rfl) (pe_c T.after (ok_after T) (hr.mono (by decide)) (pa_cons (pv 3) (pa_cons (pv 4) pa_nil))))
      (pss_one (ps_for PassesOwn.never rfl (pi_tup (pe_tup (pa_cons pe_str (pa_cons pe_str (pa_cons pe_str pa_nil))))) (pg_name (i := 6) scTableOf.nd rfl (Or.inl rfl))
      (pss_one (ps_if (pt_cmp (pc_ninK (P := P) (w := w) rfl rfl hu (pe_tup (pa_cons (pv 3) (pa_cons (pv 6) pa_nil))) (pv 2))) (pss_cons (ps_asg (pe_ngetK (P := P) (w := w) rfl rfl hu (pv 2) (pe_tup (pa_cons (pv 3) (pa_cons (pv 6) pa_nil))) (fun _ _ => rfl)) (pg_tup rfl (pgs_cons (pg_name (i := 7) scTableOf.nd rfl (Or.inl rfl)) (pgs_cons (pg_name (i := 8) scTableOf.nd rfl (Or.inl rfl)) pgs_nil))))
      (pss_cons (ps_set (i := 9) scTableOf.nd rfl (Or.inl rfl) (pe_tup (pa_cons (pe_op op_add (pv 7) (pe_c T.costOf (ok_cost T) (hr.mono (by decide)) (pa_cons (pv 3) (pa_cons (pv 6) (pa_cons (pv 4) pa_nil))))) (pa_cons (pe_op op_add_str (pv 8) (pv 4)) pa_nil))))
      (pss_cons (ps_set (i := 10) scTableOf.nd rfl (Or.inl rfl) (pe_nget1K (P := P) (w := w) rfl rfl hu (pv 2) (pe_tup (pa_cons (pv 5) (pa_cons (pv 4) pa_nil))) ⟨by rfl, by rfl, by rfl, by rfl⟩))
      (pss_one (ps_if (PW.pt (pw_or (pt_cmpR op_isN (pv 10) pe_non (nomark _)) (pw_or1 (pt_ifExp (pt_val (pv 1)) (pt_cmpR op_gt (pe_ix ix_tup (pv 9) pe_int (fun _ _ => rfl)) (pe_ix ix_tup (pv 10) pe_int (fun _ _ => rfl)) (nomark _)) (pt_cmpR op_lt (pe_ix ix_tup (pv 9) pe_int (fun _ _ => rfl)) (pe_ix ix_tup (pv 10) pe_int (fun _ _ => rfl)) (nomark _)))))) (pss_one (ps_nputK (P := P) (w := w) rfl rfl hu (pv 2) (pe_tup (pa_cons (pv 5) (pa_cons (pv 4) pa_nil))) (pv 9) rfl)) pss_nil))))) pss_nil))))))))
      (pss_one (ps_ret (pv 2))))), ?_⟩
    -- found = {((0, 0), ''): (0, '')}
    intro d nd0
    refine ⟨by show 2 ≤ sizeLine; decide, fun p0 n0 => ⟨by show 2 ≤ sizeLine; decide, fun b0 nb0 => ⟨by show 2 ≤ sizeLine; decide, fun q0 nq0 => ?_⟩⟩⟩
    have ep0 : At2 (upd (upd (upd (upd H d (dN P w d [])) p0 (.tup [.int 0, .int 0])) b0 (.tup [.ref p0, .str ""])) q0 (.tup [.int 0, .str ""])) p0 (0, 0) :=
      (Same.new nq0) _ _ ((Same.new nb0) _ _ upd_same)
    have eb0 := (Same.new (o := .tup [.int 0, .str ""]) nq0) _ _ (upd_same (H := upd (upd H d (dN P w d [])) p0 (.tup [.int 0, .int 0])) (a := b0) (o := .tup [.ref p0, .str ""]))
    have s03 : Same (upd H d (dN P w d [])) (upd (upd (upd (upd H d (dN P w d [])) p0 (.tup [.int 0, .int 0])) b0 (.tup [.ref p0, .str ""])) q0 (.tup [.int 0, .str ""])) := ((Same.new n0).trans (Same.new nb0)).trans (Same.new nq0)
    have hd3 := s03 _ _ (upd_same (H := H) (a := d) (o := dN P w d []))
    have gk : NKat (upd (upd (upd (upd H d (dN P w d [])) p0 (.tup [.int 0, .int 0])) b0 (.tup [.ref p0, .str ""])) q0 (.tup [.int 0, .str ""])) b0 (nk ((0, 0), none)) := nkat ep0 eb0
    refine ⟨b0, q0, nk ((0, 0), none), rfl, rfl, hd3, gk, fun DD => ?_⟩
    have eq0 : (upd (upd (upd (upd (upd H d (dN P w d [])) p0 (.tup [.int 0, .int 0])) b0 (.tup [.ref p0, .str ""])) q0 (.tup [.int 0, .str ""])) d (dN P w d [(nk ((0, 0), none), b0, q0)])) q0 = some (.tup [.int 0, .str (wordS [])]) := by
      rw [upd_ne (ne_of (upd_same (H := upd (upd (upd H d (dN P w d [])) p0 (.tup [.int 0, .int 0])) b0 (.tup [.ref p0, .str ""])) (a := q0) (o := .tup [.int 0, .str ""])) hd3 fun z => nomatch z), upd_same]
      rfl
    have sH : Same H (upd (upd (upd (upd (upd H d (dN P w d [])) p0 (.tup [.int 0, .int 0])) b0 (.tup [.ref p0, .str ""])) q0 (.tup [.int 0, .str ""])) d (dN P w d [(nk ((0, 0), none), b0, q0)])) := Same.mut ((Same.new nd0).trans s03) nd0
    generalize upd (upd (upd (upd (upd H d (dN P w d [])) p0 (.tup [.int 0, .int 0])) b0 (.tup [.ref p0, .str ""])) q0 (.tup [.int 0, .str ""])) d (dN P w d [(nk ((0, 0), none), b0, q0)]) = G at DD eq0 sH
    -- for span in spans_of(region)
    refine ⟨.ref a, rfl, a, r, rfl, hA.same sH, hR, fun H1 l s1 us => ?_⟩
    obtain ⟨cs, hl, hcs⟩ := us
    have ecs : (cs.map V.ref).length = (spans r).length := by rw [List.length_map, hcs.length]
    have S0 : Sound r T0 := ⟨fun u d n w h => by
      unfold T0 at h
      split at h
      · rename_i ek
        cases ek
        cases h
        exact ⟨trivial, rfl, rfl, rfl⟩
      · cases h⟩
    have D1 : NDict P w H1 d [(nk ((0, 0), none), b0, q0)] := DD.same s1
    have TI0 : TabInv P w H1 H1 d r T0 1 := ⟨Sd.refl d H1, ⟨_, D1, rep0 (s1 _ _ eq0), Nat.le_refl _⟩, S0⟩
    have sH1 := sH.trans s1
    have sz := spans_len hR
    refine ⟨l, rfl, ⟨_, SqL.of hl⟩, for_it (walk_list (xs := cs.map V.ref)) (fun i σ H' => ∃ y3 y4 y5 y6 y7 y8 y9 y10, σ = [some (.ref a), some (.bl m), some (.ref d), y3, y4, y5, y6, y7, y8, y9, y10] ∧ TabInv P w H1 H' d r (((spans r).take i).foldl (relaxU m r) T0) (1 + 6 * i))
      ⟨none, none, none, none, none, none, none, none, rfl, TI0⟩ (fun i σ H' _ h => ?_) (fun i x σ H2 H3 hi h y => ?_) (fun σ H' h => ?_)⟩
    · obtain ⟨_, _, _, _, _, _, _, _, _, ti⟩ := h
      exact SqL.of (ti.sd.lst D1.at_ hl)
    · obtain ⟨y3, y4, y5, y6, y7, y8, y9, y10, rfl, ti⟩ := h
      obtain ⟨rfl, hx⟩ := y
      rw [ecs] at hi
      obtain ⟨pu, hpu, hu2⟩ := paired_get' hcs (List.getElem?_eq_getElem hi)
      obtain rfl : x = .ref pu := by
        rw [List.getElem?_map, hpu] at hx
        exact (Option.some.inj hx).symm
      have hou : opn r (spans r)[i] = true := mem_spans.mp (List.getElem_mem hi)
      rw [take_fold (relaxU m r) (spans r) (List.getElem?_eq_getElem hi)]
      generalize (spans r)[i] = u at hu2 hou ⊢
      generalize ((spans r).take i).foldl (relaxU m r) T0 = Ti at ti ⊢
      -- for sign in steps_in(region, span)
      have hul : u.1 + u.2 ≤ 8 := by
        have h1 := le_fin hR hou
        have h2 := fin_le hR
        omega
      refine ⟨.ref a, rfl, .ref pu, rfl, a, pu, r, u, rfl, hA.same (Sd.same sH1 nd0 ti.sd), ti.sd.at2 D1.at_ hu2, fun H4 s4 => ?_⟩
      refine ⟨wordS (stepsIn r u), rfl, for_it walk_str (fun j σ H' => ∃ y4 y5 y6 y7 y8 y9 y10, σ = [some (.ref a), some (.bl m), some (.ref d), some (.ref pu), y4, y5, y6, y7, y8, y9, y10] ∧ TabInv P w H1 H' d r (((stepsIn r u).take j).foldl (relaxC m u) Ti) (1 + 6 * i + 3 * j))
        ⟨y4, y5, y6, y7, y8, y9, y10, rfl, ti.more s4 (by omega)⟩ (fun _ _ _ _ _ => trivial) (fun j x σ H5 H5' hj h y => ?_) (fun σ H' h => ?_)⟩
      · obtain ⟨y4, y5, y6, y7, y8, y9, y10, rfl, tj⟩ := h
        obtain ⟨rfl, c, hc, rfl⟩ := y
        obtain ⟨g, hg, eg⟩ := word_sign hc
        rw [eg]
        rw [wordS_size] at hj
        have hs2 := steps_le r u
        have hog : opn r (after u g) = true := mem_stepsIn.mp (List.mem_of_getElem? hg)
        rw [take_fold (relaxC m u) (stepsIn r u) hg]
        generalize ((stepsIn r u).take j).foldl (relaxC m u) Ti = Tj at tj ⊢
        -- there = after(span, sign)
        refine ⟨.ref pu, rfl, .str (sgS g), rfl, pu, u, g, rfl, tj.sd.at2 D1.at_ hu2, fun H6 p s6 np6 hp => ?_⟩
        -- for side in ('', 'L', 'R')
        refine ⟨by show 3 ≤ sizeLine; decide, fun tp ntp => ?_⟩
        have s7 : Same H6 (upd H6 tp (.tup [.str "", .str "L", .str "R"])) := Same.new ntp
        have tk0 := (tj.more s6 (Nat.le_refl _)).more s7 (Nat.le_refl _)
        have hp7 := hp.same s7
        have htp : (upd H6 tp (.tup [.str "", .str "L", .str "R"])) tp = some (.tup [.str "", .str "L", .str "R"]) := upd_same
        generalize upd H6 tp (.tup [.str "", .str "L", .str "R"]) = H7 at s7 tk0 hp7 htp ⊢
        obtain ⟨ys7, D7, R7, L7⟩ := tk0.ex
        have hu7 : At2 H7 pu u := tk0.sd.at2 D1.at_ hu2
        refine ⟨tp, rfl, ⟨_, SqT.of htp⟩, for_it (walk_tup (xs := [.str "", .str "L", .str "R"])) (fun k σ H' => ∃ y6 y7 y8 y9 y10, σ = [some (.ref a), some (.bl m), some (.ref d), some (.ref pu), some (.str (sgS g)), some (.ref p), y6, y7, y8, y9, y10] ∧ TabInv P w H7 H' d r ((sides.take k).foldl (relax m u g) Tj) (1 + 6 * i + 3 * j + k))
          ⟨y6, y7, y8, y9, y10, rfl, ⟨Sd.refl d H7, ⟨ys7, D7, R7, by omega⟩, tk0.sound⟩⟩ (fun k σ H' _ h => ?_) (fun k x σ H8 H8' hk h y => ?_) (fun σ H' h => ?_)⟩
        · obtain ⟨_, _, _, _, _, _, ti⟩ := h
          exact SqT.of (ti.sd.tup D7.at_ htp)
        · obtain ⟨y6, y7, y8, y9, y10, rfl, tk⟩ := h
          obtain ⟨rfl, hx⟩ := y
          obtain ⟨dd, hdd, rfl⟩ := side_at hx
          have hk3 : k < 3 := hk
          rw [take_fold (relax m u g) sides hdd]
          generalize (sides.take k).foldl (relax m u g) Tj = Tk at tk ⊢
          obtain ⟨ys, Dk, Rk, Lk⟩ := tk.ex
          have hu8 := tk.sd.at2 D7.at_ hu7
          have hp8 := tk.sd.at2 D7.at_ hp7
          -- (span, side) in found
          refine ⟨.ref pu, rfl, .str (sdS dd), rfl, by show 2 ≤ sizeLine; decide, fun b1 nb1 => ?_⟩
          have s9 : Same H8' (upd H8' b1 (.tup [.ref pu, .str (sdS dd)])) := Same.new nb1
          have hb1 : (upd H8' b1 (.tup [.ref pu, .str (sdS dd)])) b1 = some (.tup [.ref pu, .str (sdS dd)]) := upd_same
          generalize upd H8' b1 (.tup [.ref pu, .str (sdS dd)]) = H9 at s9 hb1 ⊢
          have D9 := Dk.same s9
          have R9 : Rep H9 ys Tk := Rk.sd (Sd.of (d := d) s9) Dk.at_
          have t9 := tk.more s9 (Nat.le_refl _)
          refine ⟨.ref d, rfl, d, b1, nk (u, dd), ys, rfl, rfl, D9, nkat (hu8.same s9) hb1, _, rfl, ?_⟩
          have en := R9 (u, dd)
          cases hn : nAt ys (nk (u, dd)) with
          | none =>
            rw [hn] at en
            have e0 : Tk (u, dd) = none := by
              cases h : Tk (u, dd) with
              | none => rfl
              | some z => rw [h] at en; exact en.elim
            refine iteF ⟨_, _, _, _, _, rfl, ?_⟩
            have er : relax m u g Tk dd = Tk := by unfold relax; rw [e0]
            rw [er]
            exact tk.more s9 (by omega)
          | some c =>
            rw [hn] at en
            obtain ⟨n, ww, e0, hc9⟩ : ∃ n ww, Tk (u, dd) = some (n, ww) ∧ H9 c = some (.tup [.int n, .str (wordS ww)]) := by
              cases h : Tk (u, dd) with
              | none => rw [h] at en; exact en.elim
              | some z => rw [h] at en; exact ⟨z.1, z.2, rfl, en⟩
            have hwl : ww.length ≤ 8 := by
              have q1 := (tk.sound.ok _ _ _ _ e0).2.1
              have q2 := end_sum ww (0, 0)
              rw [q1] at q2
              have q2 : u.1 + u.2 = 0 + 0 + ww.length := q2
              omega
            have er : relax m u g Tk dd = if takes m (n + cost u dd g) (Tk (after u g, some g)) = true then tput Tk (after u g, some g) (n + cost u dd g, ww ++ [g]) else Tk := by unfold relax; rw [e0]
            have hS : Sound r (relax m u g Tk dd) := sound_relax hog tk.sound
            refine iteT ?_
            -- size, word = found[span, side]
            refine ⟨.ref d, rfl, .ref pu, rfl, .str (sdS dd), rfl, by show 2 ≤ sizeLine; decide, fun b2 nb2 => ?_⟩
            have s10 : Same H9 (upd H9 b2 (.tup [.ref pu, .str (sdS dd)])) := Same.new nb2
            have hb2 : (upd H9 b2 (.tup [.ref pu, .str (sdS dd)])) b2 = some (.tup [.ref pu, .str (sdS dd)]) := upd_same
            generalize upd H9 b2 (.tup [.ref pu, .str (sdS dd)]) = H10 at s10 hb2 ⊢
            refine ⟨d, b2, nk (u, dd), ys, c, rfl, rfl, D9.same s10, nkat ((hu8.same s9).same s10) hb2, hn, c, _, rfl, SqT.of (s10 _ _ hc9), rfl, _, _, rfl, _, _, rfl, rfl, ?_⟩
            -- told = (size + cost_of(span, side, sign), word + sign)
            refine ⟨.int n, rfl, .ref pu, rfl, .str (sdS dd), rfl, .str (sgS g), rfl, pu, u, dd, g, rfl, (hu8.same s9).same s10, fun H11 s11 => ?_⟩
            refine ⟨n, cost u dd g, rfl, rfl, .str (wordS ww), rfl, .str (sgS g), rfl, wordS ww, sgS g, rfl, rfl, by rw [wordS_len]; exact sz_le (by show ww.length + 1 ≤ 100000; omega), by show 2 ≤ sizeLine; decide, fun qd nq => ?_⟩
            rw [wordS_snoc]
            have s12 : Same H11 (upd H11 qd (.tup [.int (n + cost u dd g), .str (wordS (ww ++ [g]))])) := Same.new nq
            have hqd : (upd H11 qd (.tup [.int (n + cost u dd g), .str (wordS (ww ++ [g]))])) qd = some (.tup [.int (n + cost u dd g), .str (wordS (ww ++ [g]))]) := upd_same
            generalize upd H11 qd (.tup [.int (n + cost u dd g), .str (wordS (ww ++ [g]))]) = H12 at s12 hqd ⊢
            have s8_12 := ((s9.trans s10).trans s11).trans s12
            -- known = found.get((there, sign))
            refine ⟨.ref d, rfl, d, ys, rfl, Dk.same s8_12, .ref p, rfl, .str (sgS g), rfl, by show 2 ≤ sizeLine; decide, fun b3 nb3 => ?_⟩
            have s13 : Same H12 (upd H12 b3 (.tup [.ref p, .str (sgS g)])) := Same.new nb3
            have hb3 : (upd H12 b3 (.tup [.ref p, .str (sgS g)])) b3 = some (.tup [.ref p, .str (sdS (some g))]) := upd_same
            generalize upd H12 b3 (.tup [.ref p, .str (sgS g)]) = H13 at s13 hb3 ⊢
            have s8_13 := s8_12.trans s13
            have D13 := Dk.same s8_13
            have R13 : Rep H13 ys Tk := Rk.sd (Sd.of (d := d) s8_13) Dk.at_
            have hqd13 := s13 _ _ hqd
            refine ⟨b3, nk (after u g, some g), rfl, D13, nkat (hp8.same s8_13) hb3, ?_⟩
            -- the two ends
            have fin : ∀ (b : Bool) (kn : V), takes m (n + cost u dd g) (Tk (after u g, some g)) = b →
                (if b = true then sNPut P w (tVar 2) (tTup (tCons (tVar 5) (tCons (tVar 4) tNil))) (tVar 9) { nx := fun σ H' => ∃ y6 y7 y8 y9 y10, σ = [some (.ref a), some (.bl m), some (.ref d), some (.ref pu), some (.str (sgS g)), some (.ref p), y6, y7, y8, y9, y10] ∧ TabInv P w H7 H' d r (relax m u g Tk dd) (1 + 6 * i + 3 * j + (k + 1)), rt := Q } [some (.ref a), some (.bl m), some (.ref d), some (.ref pu), some (.str (sgS g)), some (.ref p), some (.str (sdS dd)), some (.int n), some (.str (wordS ww)), some (.ref qd), some kn] H13
                 else ∃ y6 y7 y8 y9 y10, [some (.ref a), some (.bl m), some (.ref d), some (.ref pu), some (.str (sgS g)), some (.ref p), some (.str (sdS dd)), some (.int n), some (.str (wordS ww)), some (.ref qd), some kn] = [some (.ref a), some (.bl m), some (.ref d), some (.ref pu), some (.str (sgS g)), some (.ref p), y6, y7, y8, y9, y10] ∧ TabInv P w H7 H13 d r (relax m u g Tk dd) (1 + 6 * i + 3 * j + (k + 1))) := by
              intro b kn hb
              cases b with
              | false =>
                rw [hb, if_neg Bool.false_ne_true] at er
                refine iteF ⟨_, _, _, _, _, rfl, ?_⟩
                rw [er]
                exact tk.more s8_13 (by omega)
              | true =>
                rw [hb, if_pos rfl] at er
                refine iteT ?_
                refine ⟨.ref qd, rfl, .ref d, rfl, .ref p, rfl, .str (sgS g), rfl, by show 2 ≤ sizeLine; decide, fun b4 nb4 => ?_⟩
                have s14 : Same H13 (upd H13 b4 (.tup [.ref p, .str (sgS g)])) := Same.new nb4
                have hb4 : (upd H13 b4 (.tup [.ref p, .str (sgS g)])) b4 = some (.tup [.ref p, .str (sdS (some g))]) := upd_same
                generalize upd H13 b4 (.tup [.ref p, .str (sgS g)]) = H14 at s14 hb4 ⊢
                have s8_14 := s8_13.trans s14
                have D14 := Dk.same s8_14
                have R14 : Rep H14 ys Tk := Rk.sd (Sd.of (d := d) s8_14) Dk.at_
                have gk := nkat (hp8.same s8_14) hb4
                have hyl : ys.length < sizeLine := sz_lt (by omega)
                refine ⟨d, b4, nk (after u g, some g), ys, qd, rfl, rfl, rfl, D14, gk, hyl, ⟨_, _, _, _, _, rfl, ?_⟩⟩
                refine ⟨(tk.sd.trans (Sd.of s8_14)).trans Sd.upd, ⟨_, D14.put gk hyl, ?_, ?_⟩, hS⟩
                · rw [er]
                  exact (R14.put (s14 _ _ hqd13)).sd (P := P) (w := w) (d := d) (Sd.upd) D14.at_
                · have := nPut_len ys (nk (after u g, some g)) b4 qd
                  omega
            have en2 := R13 (after u g, some g)
            cases hn2 : nAt ys (nk (after u g, some g)) with
            | none =>
              rw [hn2] at en2
              have e2 : Tk (after u g, some g) = none := by
                cases h : Tk (after u g, some g) with
                | none => rfl
                | some z => rw [h] at en2; exact en2.elim
              refine ⟨.non, rfl, rfl, _, rfl, iteT ?_⟩
              exact fin true .non (by rw [e2]; rfl)
            | some c2 =>
              rw [hn2] at en2
              obtain ⟨n2, w2, e2, hc2⟩ : ∃ n2 w2, Tk (after u g, some g) = some (n2, w2) ∧ H13 c2 = some (.tup [.int n2, .str (wordS w2)]) := by
                cases h : Tk (after u g, some g) with
                | none => rw [h] at en2; exact en2.elim
                | some z => rw [h] at en2; exact ⟨z.1, z.2, rfl, en2⟩
              refine ⟨.ref c2, rfl, rfl, _, rfl, iteF ?_⟩
              refine ⟨.bl m, rfl, m, rfl, ?_⟩
              cases m with
              | true =>
                refine iteT ⟨.ref qd, rfl, qd, _, 0, _, rfl, rfl, SqT.of hqd13, rfl, .ref c2, rfl, c2, _, 0, _, rfl, rfl, SqT.of hc2, rfl, n + cost u dd g, n2, rfl, rfl, _, rfl, ?_⟩
                exact fin _ (.ref c2) (by rw [e2]; rfl)
              | false =>
                refine iteF ⟨.ref qd, rfl, qd, _, 0, _, rfl, rfl, SqT.of hqd13, rfl, .ref c2, rfl, c2, _, 0, _, rfl, rfl, SqT.of hc2, rfl, n + cost u dd g, n2, rfl, rfl, _, rfl, ?_⟩
                exact fin _ (.ref c2) (by rw [e2]; rfl)
        · obtain ⟨y6, y7, y8, y9, y10, rfl, tk⟩ := h
          refine ⟨_, _, _, _, _, _, _, rfl, tk0.sd.trans tk.sd, ?_, ?_⟩
          · obtain ⟨ys, h1, h2, h3⟩ := tk.ex
            exact ⟨ys, h1, h2, by have : ([.str "", .str "L", .str "R"] : List V).length = 3 := rfl; omega⟩
          · exact tk.sound
      · obtain ⟨y4, y5, y6, y7, y8, y9, y10, rfl, tj⟩ := h
        rw [wordS_size, List.take_of_length_le (Nat.le_refl _)] at tj
        have hs2 := steps_le r u
        refine ⟨_, _, _, _, _, _, _, _, rfl, tj.sd, ?_, tj.sound⟩
        obtain ⟨ys, h1, h2, h3⟩ := tj.ex
        exact ⟨ys, h1, h2, by omega⟩
    · obtain ⟨y3, y4, y5, y6, y7, y8, y9, y10, rfl, ti⟩ := h
      rw [ecs, List.take_of_length_le (Nat.le_refl _)] at ti
      obtain ⟨ys, h1, h2, h3⟩ := ti.ex
      exact ⟨.ref d, rfl, q H' d ys (Sd.same sH1 nd0 ti.sd) h1 h2⟩
end
end KX
end L2
namespace L2
namespace KX
open PySem PySem.W PySem.Spec PyProof.Rows
open KL
abbrev En := Int × Option Sg × List Sg
def entry (r : Rg) (T : Tab) (d : Option Sg) : Option En := (T (fin r, d)).map fun p => (p.1, d, p.2)
def endsTo (r : Rg) (T : Tab) (i : Nat) : List En := (sides.take i).filterMap (entry r T)
def endsL (r : Rg) (T : Tab) : List En := endsTo r T 3
theorem endsTo_succ (r : Rg) (T : Tab) {i : Nat} {d : Option Sg} (h : sides[i]? = some d) : endsTo r T (i + 1) = endsTo r T i ++ (match entry r T d with | none => [] | some e => [e]) := by
  unfold endsTo
  rw [List.take_add_one, h, List.filterMap_append]
  show _ ++ List.filterMap (entry r T) [d] = _
  rw [List.filterMap_cons]
  cases entry r T d <;> rfl
theorem mem_endsL {r : Rg} {T : Tab} {e : En} : e ∈ endsL r T ↔ T (fin r, e.2.1) = some (e.1, e.2.2) := by
  unfold endsL endsTo
  rw [List.mem_filterMap]
  constructor
  · rintro ⟨d, _, h⟩
    unfold entry at h
    obtain ⟨p, h1, h2⟩ := Option.map_eq_some_iff.mp h
    subst h2
    exact h1
  · intro h
    refine ⟨e.2.1, sides_all e.2.1, ?_⟩
    unfold entry
    rw [h]
    rfl
def At3 (H : Hp) (c : Addr) (e : En) : Prop := H c = some (.tup [.int e.1, .str (sdS e.2.1), .str (wordS e.2.2)])
def EnAt (H : Hp) (l : Addr) (es : List En) : Prop := ∃ cs : List Addr, H l = some (.lst (cs.map V.ref)) ∧ Paired (At3 H) cs es
theorem At3.same {H H' : Hp} {c : Addr} {e : En} (s : Same H H') (h : At3 H c e) : At3 H' c e := s _ _ h
theorem EnAt.same {H H' : Hp} {l : Addr} {es : List En} (s : Same H H') (h : EnAt H l es) : EnAt H' l es := by
  obtain ⟨cs, h1, h2⟩ := h
  exact ⟨cs, s _ _ h1, Paired.mapP h2 fun _ _ z => z.same s⟩
theorem EnAt.snoc {H : Hp} {l p : Addr} {cs : List Addr} {es : List En} {e : En} (h : H l = some (.lst (cs.map V.ref))) (h2 : Paired (At3 H) cs es) (hp : At3 H p e) : EnAt (upd H l (.lst (cs.map V.ref ++ [.ref p]))) l (es ++ [e]) := by
  refine ⟨cs ++ [p], by rw [upd_same, List.map_append]; rfl, ?_⟩
  have keep : ∀ c v, At3 H c v → At3 (upd H l (.lst (cs.map V.ref ++ [.ref p]))) c v := fun c v z => by
    unfold At3 at *
    rw [upd_ne (ne_of z h fun q => nomatch q)]
    exact z
  exact Paired.snoc (Paired.mapP h2 keep) (keep _ _ hp)
def trOf (e : En) : Tr := (e.1, sdS e.2.1, wordS e.2.2)
theorem en_tr {K : PySem.W.Frag} {H : Hp} : ∀ {cs : List Addr} {es : List En}, Paired (At3 H) cs es → Paired (TrAt K H) cs (es.map trOf)
  | _, _, .nil => .nil
  | _, _, .cons h t => .cons (SqT.of h) (en_tr t)
theorem endsTo_len (r : Rg) (T : Tab) (i : Nat) : (endsTo r T i).length ≤ 3 := by
  have h := List.length_filterMap_le (entry r T) (sides.take i)
  have h2 : (sides.take i).length ≤ 3 := by
    rw [List.length_take]
    have : sides.length = 3 := rfl
    omega
  exact Nat.le_trans h h2
theorem endsL_ne {m : Bool} {r : Rg} (h : Reg r) : endsL r (table m r) ≠ [] := fun e => by
  have hne := every_ne h
  cases he : every r with
  | nil => exact hne he
  | cons w ws =>
    have hp := (mem_every h).mp (he ▸ List.mem_cons_self : w ∈ every r)
    obtain ⟨n, w', q, _⟩ := play_end (m := m) h hp
    have : (n, lastd none w, w') ∈ endsL r (table m r) := mem_endsL.mpr q
    rw [e] at this
    cases this
section
variable {P : Program} {w : World} {K : PySem.W.Frag} {mg : Str → Option Value} {base : Heap}
def spEnds (P : Program) (w : World) : Sp := fun vs H Q _ => ∃ (a d : Addr) (r : Rg) (T : Tab) (ys : List NE), vs = [.ref a, .ref d] ∧ RgAt H a r ∧ Reg r ∧ NDict P w H d ys ∧ Rep H ys T ∧ ∀ H' l, Same H H' → EnAt H' l (endsL r T) → Q (.ref l) H'
theorem ok_ends (T : Txt K mg) : FnOk P w K mg base CX0 2 T.endsIn.f T.endsIn.fd ["region", "table"] (spEnds P w) := by
  refine T.endsIn.F.ok scEndsIn (fun vs H Q E h => ?_) (fun cdv A outer s H vs Q E hr h => ?_)
  · obtain ⟨a, d, r, T, ys, rfl, _⟩ := h
    rfl
  · obtain ⟨a, d, r, TT, ys, rfl, hA, hR, hD, hY, q⟩ := h
    have hu : (A.deeper (envOfC (Str.ofString "ends_in") (defScope sEndsIn) s.heap.objs.size T.endsIn.f cdv)).units + 9 < cLine := by have := hr.un; omega
    refine ⟨_, (pss_cons (ps_set (i := 2) scEndsIn.nd rfl (Or.inr rfl) (pe_c T.endOf (ok_end T) (hr.mono (by decide)) (pa_cons (pv 0) pa_nil)))
      (pss_one (ps_ret (pe_lc (X := (cxOf CX0 P w K mg base nEndsIn "ends_in" (defScope sEndsIn) T.endsIn.f cdv A outer s H E).nox) (own := [("side", 3)]) rfl scEndsIn.nd (pi_tup (pe_tup (pa_cons pe_str (pa_cons pe_str (pa_cons pe_str pa_nil))))) (blkOk_by (N := nEndsIn) (sc := defScope sEndsIn) (own := [("side", 3)]) (by decide +kernel)) (fun _ _ _ _ _ => (pg_name (i := 3) scEndsIn.nd rfl (Or.inl rfl))) (fun _ _ _ _ _ => (pts_one (pt_cmp (pc_ninK (P := P) (w := w) rfl rfl hu (pe_tup (pa_cons (pv 2) (pa_cons (pv 3) pa_nil))) (pv 1))))) (fun _ _ _ _ _ => (pe_tup (pa_cons (pe_ix (ix_tupK (K := K) rfl) (pe_ngetK (P := P) (w := w) rfl rfl hu (pv 1) (pe_tup (pa_cons (pv 2) (pa_cons (pv 3) pa_nil))) (fun _ _ => rfl)) pe_int (fun _ _ => rfl)) (pa_cons (pv 3) (pa_cons (pe_ix (ix_tupK (K := K) rfl) (pe_ngetK (P := P) (w := w) rfl rfl hu (pv 1) (pe_tup (pa_cons (pv 2) (pa_cons (pv 3) pa_nil))) (fun _ _ => rfl)) pe_int (fun _ _ => rfl)) pa_nil))))))))), ?_⟩
    refine ⟨.ref a, rfl, a, r, rfl, hA, hR, fun H1 pe s1 npe hpe => ?_⟩
    refine ⟨by show 3 ≤ sizeLine; decide, fun tp ntp => ?_⟩
    have s2 : Same H1 (upd H1 tp (.tup [.str "", .str "L", .str "R"])) := Same.new ntp
    have htp : (upd H1 tp (.tup [.str "", .str "L", .str "R"])) tp = some (.tup [.str "", .str "L", .str "R"]) := upd_same
    generalize upd H1 tp (.tup [.str "", .str "L", .str "R"]) = H2 at s2 htp ⊢
    have s02 := s1.trans s2
    have hpe2 := hpe.same s2
    have D2 := hD.same s02
    have R2 : Rep H2 ys TT := hY.sd (Sd.of (d := d) s02) hD.at_
    refine ⟨tp, rfl, ⟨_, SqT.of htp⟩, fun D nD => lc_it (walk_tup (xs := [.str "", .str "L", .str "R"])) (fun i H' => Same H2 H' ∧ EnAt H' D (endsTo r TT i)) ⟨Same.new nD, [], upd_same, .nil⟩ (fun i H' _ h => Same.seqT h.1 (SqT.of htp)) (fun i x H3 H3' hi h y => ?_) (fun H' h => ?_)⟩
    · obtain ⟨rfl, hx⟩ := y
      obtain ⟨dd, hdd, rfl⟩ := side_at hx
      obtain ⟨s3, cs, hcs, hps⟩ := h
      refine ⟨rfl, ?_⟩
      refine ⟨.ref pe, rfl, .str (sdS dd), rfl, by show 2 ≤ sizeLine; decide, fun b1 nb1 => ?_⟩
      have s4 : Same H3' (upd H3' b1 (.tup [.ref pe, .str (sdS dd)])) := Same.new nb1
      have hb1 : (upd H3' b1 (.tup [.ref pe, .str (sdS dd)])) b1 = some (.tup [.ref pe, .str (sdS dd)]) := upd_same
      generalize upd H3' b1 (.tup [.ref pe, .str (sdS dd)]) = H4 at s4 hb1 ⊢
      have s24 := s3.trans s4
      have hpe4 := hpe2.same s24
      have D4 := D2.same s24
      have R4 : Rep H4 ys TT := R2.sd (Sd.of (d := d) s24) D2.at_
      refine ⟨.ref d, rfl, d, b1, nk (fin r, dd), ys, rfl, rfl, D4, nkat hpe4 hb1, _, rfl, ?_⟩
      have en := R4 (fin r, dd)
      rw [endsTo_succ r TT hdd]
      cases hn : nAt ys (nk (fin r, dd)) with
      | none =>
        rw [hn] at en
        have e0 : entry r TT dd = none := by
          unfold entry
          cases h : TT (fin r, dd) with
          | none => rfl
          | some z => rw [h] at en; exact en.elim
        rw [e0]
        refine iteF ⟨s24, ?_⟩
        rw [List.append_nil]
        exact ⟨cs, s4 _ _ hcs, Paired.mapP hps fun _ _ z => z.same s4⟩
      | some c =>
        rw [hn] at en
        obtain ⟨n, ww, e0, hc4⟩ : ∃ n ww, TT (fin r, dd) = some (n, ww) ∧ H4 c = some (.tup [.int n, .str (wordS ww)]) := by
          cases h : TT (fin r, dd) with
          | none => rw [h] at en; exact en.elim
          | some z => rw [h] at en; exact ⟨z.1, z.2, rfl, en⟩
        have e1 : entry r TT dd = some (n, dd, ww) := by unfold entry; rw [e0]; rfl
        rw [e1]
        refine iteT ?_
        refine ⟨.ref d, rfl, .ref pe, rfl, .str (sdS dd), rfl, by show 2 ≤ sizeLine; decide, fun b2 nb2 => ?_⟩
        have s5 : Same H4 (upd H4 b2 (.tup [.ref pe, .str (sdS dd)])) := Same.new nb2
        have hb2 : (upd H4 b2 (.tup [.ref pe, .str (sdS dd)])) b2 = some (.tup [.ref pe, .str (sdS dd)]) := upd_same
        generalize upd H4 b2 (.tup [.ref pe, .str (sdS dd)]) = H5 at s5 hb2 ⊢
        refine ⟨d, b2, nk (fin r, dd), ys, c, rfl, rfl, D4.same s5, nkat (hpe4.same s5) hb2, hn, c, _, 0, _, rfl, rfl, SqT.of (s5 _ _ hc4), rfl, .str (sdS dd), rfl, ?_⟩
        refine ⟨.ref d, rfl, .ref pe, rfl, .str (sdS dd), rfl, by show 2 ≤ sizeLine; decide, fun b3 nb3 => ?_⟩
        have s6 : Same H5 (upd H5 b3 (.tup [.ref pe, .str (sdS dd)])) := Same.new nb3
        have hb3 : (upd H5 b3 (.tup [.ref pe, .str (sdS dd)])) b3 = some (.tup [.ref pe, .str (sdS dd)]) := upd_same
        generalize upd H5 b3 (.tup [.ref pe, .str (sdS dd)]) = H6 at s6 hb3 ⊢
        refine ⟨d, b3, nk (fin r, dd), ys, c, rfl, rfl, (D4.same s5).same s6, nkat ((hpe4.same s5).same s6) hb3, hn, c, _, 1, _, rfl, rfl, SqT.of (s6 _ _ (s5 _ _ hc4)), rfl, by show 3 ≤ sizeLine; decide, fun qd nq => ?_⟩
        have s7 : Same H6 (upd H6 qd (.tup [.int n, .str (sdS dd), .str (wordS ww)])) := Same.new nq
        have hqd : At3 (upd H6 qd (.tup [.int n, .str (sdS dd), .str (wordS ww)])) qd (n, dd, ww) := upd_same
        generalize upd H6 qd (.tup [.int n, .str (sdS dd), .str (wordS ww)]) = H7 at s7 hqd ⊢
        have s37 := ((s4.trans s5).trans s6).trans s7
        refine ⟨cs.map V.ref, s37 _ _ hcs, ?_, Same.mut (s3.trans s37) nD, EnAt.snoc (s37 _ _ hcs) (Paired.mapP hps fun _ _ z => z.same s37) hqd⟩
        rw [List.length_map, hps.length]
        have := endsTo_len r TT i
        exact sz_lt (by omega)
    · exact q H' D (s02.trans h.1) h.2
def spLeast : Sp := fun vs H Q _ => ∃ (a : Addr) (r : Rg), vs = [.ref a] ∧ RgAt H a r ∧ Reg r ∧ ∀ H' p ww, Same H H' → H' p = some (.tup [.int (walk ww), .str (wordS ww)]) → IsPlay r ww → (∀ w', IsPlay r w' → walk ww ≤ walk w') → Q (.ref p) H'
def spMost : Sp := fun vs H Q _ => ∃ (a : Addr) (r : Rg), vs = [.ref a] ∧ RgAt H a r ∧ Reg r ∧ ∀ H' p ww, Same H H' → H' p = some (.tup [.int (walk ww), .str (wordS ww)]) → IsPlay r ww → (∀ w', IsPlay r w' → walk w' ≤ walk ww) → Q (.ref p) H'
theorem tr_at {es : List En} {i : Nat} {t : Tr} (h : (es.map trOf)[i]? = some t) : ∃ e, es[i]? = some e ∧ t = trOf e := by
  rw [List.getElem?_map] at h
  obtain ⟨e, h1, h2⟩ := Option.map_eq_some_iff.mp h
  exact ⟨e, h1, h2.symm⟩
theorem ok_least (T : Txt K mg) : FnOk P w K mg base CX0 5 T.leastWalk.f T.leastWalk.fd ["region"] spLeast := by
  refine T.leastWalk.F.ok scLeastWalk (fun vs H Q E h => ?_) (fun cdv A outer s H vs Q E hr h => ?_)
  · obtain ⟨a, r, rfl, _⟩ := h
    rfl
  · obtain ⟨a, r, rfl, hA, hR, q⟩ := h
    have hu : (A.deeper (envOfC (Str.ofString "least_walk") (defScope sLeastWalk) s.heap.objs.size T.leastWalk.f cdv)).units + 9 < cLine := by have := hr.un; omega
    refine ⟨_, (pss_cons (ps_expr (pe_c T.needRegion (ok_need T) (hr.mono (by decide)) (pa_cons (pv 0) pa_nil)))
      (pss_cons (ps_asg (pe_callB (cr_minT rfl hu) (by rfl) T.z_min boot_min (pa_cons (pe_c T.endsIn (ok_ends T) (hr.mono (by decide)) (pa_cons (pv 0) (pa_cons (pe_c T.tableOf (ok_table T) (hr.mono (by decide)) (pa_cons (pv 0) (pa_cons pe_bl pa_nil))) pa_nil))) pa_nil)) (pg_tup rfl (pgs_cons (pg_name (i := 1) scLeastWalk.nd rfl (Or.inl rfl)) (pgs_cons (pg_name (i := 2) scLeastWalk.nd rfl (Or.inl rfl)) (pgs_cons (pg_name (i := 3) scLeastWalk.nd rfl (Or.inl rfl)) pgs_nil)))))
      (pss_one (ps_ret (pe_tup (pa_cons (pv 1) (pa_cons (pv 3) pa_nil))))))), ?_⟩
    refine ⟨.ref a, rfl, a, r, rfl, hA, hR, fun H1 s1 => ?_⟩
    refine ⟨.ref a, rfl, .ref a, rfl, a, r, false, rfl, hA.same s1, hR, fun H2 d ys s2 D2 R2 => ?_⟩
    refine ⟨a, d, r, table false r, ys, rfl, hA.same (s1.trans s2), hR, D2, R2, fun H3 l s3 es => ?_⟩
    obtain ⟨cs, hl, hcs⟩ := es
    refine ⟨l, cs, (endsL r (table false r)).map trOf, rfl, SqL.of hl, en_tr hcs, fun z => endsL_ne hR (List.map_eq_nil_iff.mp z), fun i c t hc ht hle => ?_⟩
    obtain ⟨e, he, rfl⟩ := tr_at ht
    obtain ⟨e', he', hc3⟩ := paired_get hcs hc
    rw [he] at he'
    cases he'
    have hm : e ∈ endsL r (table false r) := List.mem_of_getElem? he
    obtain ⟨p1, p2, p3⟩ := end_play hR (mem_endsL.mp hm)
    obtain ⟨n, dd, ww⟩ := e
    have p3 : walk ww = n := p3
    subst p3
    refine ⟨c, _, rfl, SqT.of hc3, rfl, _, _, rfl, _, _, rfl, _, _, rfl, rfl, ?_⟩
    refine ⟨.int (walk ww), rfl, .str (wordS ww), rfl, by show 2 ≤ sizeLine; decide, fun p np => ?_⟩
    refine q _ p ww (((s1.trans s2).trans s3).trans (Same.new np)) upd_same p1 fun w' hw' => ?_
    obtain ⟨n', w2, f1, f2⟩ := play_end (m := false) hR hw'
    have hm2 : (n', lastd none w', w2) ∈ endsL r (table false r) := mem_endsL.mpr f1
    have g1 : walk ww ≤ n' := hle (trOf (n', lastd none w', w2)) (List.mem_map.mpr ⟨_, hm2, rfl⟩)
    have g2 : n' ≤ walk w' := f2
    omega
theorem ok_most (T : Txt K mg) : FnOk P w K mg base CX0 5 T.mostWalk.f T.mostWalk.fd ["region"] spMost := by
  refine T.mostWalk.F.ok scMostWalk (fun vs H Q E h => ?_) (fun cdv A outer s H vs Q E hr h => ?_)
  · obtain ⟨a, r, rfl, _⟩ := h
    rfl
  · obtain ⟨a, r, rfl, hA, hR, q⟩ := h
    have hu : (A.deeper (envOfC (Str.ofString "most_walk") (defScope sMostWalk) s.heap.objs.size T.mostWalk.f cdv)).units + 9 < cLine := by have := hr.un; omega
    refine ⟨_, (pss_cons (ps_expr (pe_c T.needRegion (ok_need T) (hr.mono (by decide)) (pa_cons (pv 0) pa_nil)))
      (pss_cons (ps_asg (pe_callB (cr_maxT rfl hu) (by rfl) T.z_max boot_max (pa_cons (pe_c T.endsIn (ok_ends T) (hr.mono (by decide)) (pa_cons (pv 0) (pa_cons (pe_c T.tableOf (ok_table T) (hr.mono (by decide)) (pa_cons (pv 0) (pa_cons pe_bl pa_nil))) pa_nil))) pa_nil)) (pg_tup rfl (pgs_cons (pg_name (i := 1) scMostWalk.nd rfl (Or.inl rfl)) (pgs_cons (pg_name (i := 2) scMostWalk.nd rfl (Or.inl rfl)) (pgs_cons (pg_name (i := 3) scMostWalk.nd rfl (Or.inl rfl)) pgs_nil)))))
      (pss_one (ps_ret (pe_tup (pa_cons (pv 1) (pa_cons (pv 3) pa_nil))))))), ?_⟩
    refine ⟨.ref a, rfl, a, r, rfl, hA, hR, fun H1 s1 => ?_⟩
    refine ⟨.ref a, rfl, .ref a, rfl, a, r, true, rfl, hA.same s1, hR, fun H2 d ys s2 D2 R2 => ?_⟩
    refine ⟨a, d, r, table true r, ys, rfl, hA.same (s1.trans s2), hR, D2, R2, fun H3 l s3 es => ?_⟩
    obtain ⟨cs, hl, hcs⟩ := es
    refine ⟨l, cs, (endsL r (table true r)).map trOf, rfl, SqL.of hl, en_tr hcs, fun z => endsL_ne hR (List.map_eq_nil_iff.mp z), fun i c t hc ht hle => ?_⟩
    obtain ⟨e, he, rfl⟩ := tr_at ht
    obtain ⟨e', he', hc3⟩ := paired_get hcs hc
    rw [he] at he'
    cases he'
    have hm : e ∈ endsL r (table true r) := List.mem_of_getElem? he
    obtain ⟨p1, p2, p3⟩ := end_play hR (mem_endsL.mp hm)
    obtain ⟨n, dd, ww⟩ := e
    have p3 : walk ww = n := p3
    subst p3
    refine ⟨c, _, rfl, SqT.of hc3, rfl, _, _, rfl, _, _, rfl, _, _, rfl, rfl, ?_⟩
    refine ⟨.int (walk ww), rfl, .str (wordS ww), rfl, by show 2 ≤ sizeLine; decide, fun p np => ?_⟩
    refine q _ p ww (((s1.trans s2).trans s3).trans (Same.new np)) upd_same p1 fun w' hw' => ?_
    obtain ⟨n', w2, f1, f2⟩ := play_end (m := true) hR hw'
    have hm2 : (n', lastd none w', w2) ∈ endsL r (table true r) := mem_endsL.mpr f1
    have g1 : n' ≤ walk ww := hle (trOf (n', lastd none w', w2)) (List.mem_map.mpr ⟨_, hm2, rfl⟩)
    have g2 : walk w' ≤ n' := f2
    omega
def homeOf (r : Rg) : Option Sg → Int
  | none => 0
  | some .L => ((fin r).1 : Nat)
  | some .R => ((fin r).2 : Nat)
def spBack : Sp := fun vs H Q _ => ∃ (a : Addr) (r : Rg), vs = [.ref a] ∧ RgAt H a r ∧ Reg r ∧ ∀ H' n, Same H H' → (∃ ww, IsPlay r ww ∧ n = walk ww + homeOf r (lastd none ww)) → (∀ ww, IsPlay r ww → n ≤ walk ww + homeOf r (lastd none ww)) → Q (.int n) H'
def homeK (r : Rg) : List (Key × V) := [(.inr "", .int 0), (.inr "L", .int ((fin r).1 : Nat)), (.inr "R", .int ((fin r).2 : Nat))]
theorem home_at (r : Rg) (d : Option Sg) : valV (mergeK [] (homeK r)) (.inr (sdS d)) = some (.int (homeOf r d)) := by
  rcases d with _ | _ | _ <;> rfl
theorem ok_back (T : Txt K mg) : FnOk P w K mg base CX0 5 T.walkBack.f T.walkBack.fd ["region"] spBack := by
  refine T.walkBack.F.ok scWalkBack (fun vs H Q E h => ?_) (fun cdv A outer s H vs Q E hr h => ?_)
  · obtain ⟨a, r, rfl, _⟩ := h
    rfl
  · obtain ⟨a, r, rfl, hA, hR, q⟩ := h
    refine ⟨_, (pss_cons (ps_expr (pe_c T.needRegion (ok_need T) (hr.mono (by decide)) (pa_cons (pv 0) pa_nil)))
      (pss_cons (ps_asg (pe_c T.endOf (ok_end T) (hr.mono (by decide)) (pa_cons (pv 0) pa_nil)) (pg_tup rfl (pgs_cons (pg_name (i := 1) scWalkBack.nd rfl (Or.inl rfl)) (pgs_cons (pg_name (i := 2) scWalkBack.nd rfl (Or.inl rfl)) pgs_nil))))
      (pss_cons (ps_set (i := 3) scWalkBack.nd rfl (Or.inr rfl) (pe_disp (pps_cons pe_str pe_int (pps_cons pe_str (pv 1) (pps_cons pe_str (pv 2) pps_nil))) (by rfl) (by rfl) (fun z => by cases z) (by decide)))
      (pss_one (ps_ret (pe_callB (cr_min rfl) (by rfl) T.z_min boot_min (pa_cons (pe_lc (X := (cxOf CX0 P w K mg base nWalkBack "walk_back" (defScope sWalkBack) T.walkBack.f cdv A outer s H E).nox) (own := [("size", 4), ("side", 5), ("word", 6)]) rfl scWalkBack.nd (pi_list (pe_c T.endsIn (ok_ends T) (hr.mono (by decide)) (pa_cons (pv 0) (pa_cons (pe_c T.tableOf (ok_table T) (hr.mono (by decide)) (pa_cons (pv 0) (pa_cons pe_bl pa_nil))) pa_nil)))) (blkOk_by (N := nWalkBack) (sc := defScope sWalkBack) (own := [("size", 4), ("side", 5), ("word", 6)]) (by decide +kernel)) (fun _ _ _ _ _ => (pg_tupK (K := K) (n := 3) rfl rfl (pgs_cons (pg_name (i := 4) scWalkBack.nd rfl (Or.inl rfl)) (pgs_cons (pg_name (i := 5) scWalkBack.nd rfl (Or.inl rfl)) (pgs_cons (pg_name (i := 6) scWalkBack.nd rfl (Or.inl rfl)) pgs_nil))))) (fun _ _ _ _ _ => pts_nil) (fun _ _ _ _ _ => (pe_op op_add (pv 4) (pe_dget (hu_of hr) (pv 3) (pv 5) (fun _ _ => rfl))))) pa_nil))))))), ?_⟩
    refine ⟨.ref a, rfl, a, r, rfl, hA, hR, fun H1 s1 => ?_⟩
    refine ⟨.ref a, rfl, a, r, rfl, hA.same s1, hR, fun H2 pe s2 npe hpe => ?_⟩
    refine ⟨pe, _, rfl, SqT.of hpe, rfl, _, _, rfl, _, _, rfl, rfl, ?_⟩
    intro hd nhd
    refine ⟨.int ((fin r).1 : Nat), rfl, .int ((fin r).2 : Nat), rfl, upd_same, homeK r, rfl, by show 3 ≤ 15; decide, ?_⟩
    have s3 : Same H2 (upd (upd H2 hd (.dK [])) hd (.dK (mergeK [] (homeK r)))) := Same.mut (Same.new nhd) nhd
    have hh : (upd (upd H2 hd (.dK [])) hd (.dK (mergeK [] (homeK r)))) hd = some (.dK (mergeK [] (homeK r))) := upd_same
    generalize upd (upd H2 hd (.dK [])) hd (.dK (mergeK [] (homeK r))) = H3 at s3 hh ⊢
    have s03 := (s1.trans s2).trans s3
    refine ⟨.ref a, rfl, .ref a, rfl, a, r, false, rfl, hA.same s03, hR, fun H4 d ys s4 D4 R4 => ?_⟩
    refine ⟨a, d, r, table false r, ys, rfl, hA.same (s03.trans s4), hR, D4, R4, fun H5 l s5 es => ?_⟩
    obtain ⟨cs, hl, hcs⟩ := es
    have hh5 := s5 _ _ (s4 _ _ hh)
    have hlen : (cs.map V.ref).length = (endsL r (table false r)).length := by rw [List.length_map, hcs.length]
    refine ⟨l, rfl, ⟨_, SqL.of hl⟩, fun D nD => lc_it (walk_list (xs := cs.map V.ref)) (fun i H' => Same H5 H' ∧ H' D = some (.lst (((endsL r (table false r)).take i).map fun e => V.int (e.1 + homeOf r e.2.1)))) ⟨Same.new nD, upd_same⟩ (fun i H' _ h => SqL.of (h.1 _ _ hl)) (fun i x H6 H6' hi h y => ?_) (fun H' h => ?_)⟩
    · obtain ⟨rfl, hx⟩ := y
      obtain ⟨s6, hD6⟩ := h
      rw [hlen] at hi
      obtain ⟨c, hc, hc3⟩ := paired_get' hcs (List.getElem?_eq_getElem hi)
      obtain rfl : x = .ref c := by
        rw [List.getElem?_map, hc] at hx
        exact (Option.some.inj hx).symm
      have et : (endsL r (table false r)).take (i + 1) = (endsL r (table false r)).take i ++ [(endsL r (table false r))[i]] := by
        rw [List.take_add_one, List.getElem?_eq_getElem hi]
        rfl
      rw [et]
      generalize (endsL r (table false r))[i] = e at hc3 ⊢
      obtain ⟨n, dd, ww⟩ := e
      refine ⟨c, _, rfl, SqT.of (s6 _ _ hc3), rfl, _, _, rfl, _, _, rfl, _, _, rfl, rfl, rfl, ?_⟩
      refine ⟨.int n, rfl, .ref hd, rfl, .str (sdS dd), rfl, hd, .int (homeOf r dd), rfl, ?_, n, homeOf r dd, rfl, rfl, _, hD6, ?_, ?_, ?_⟩
      · have g := DGet.k (k := Sum.inr (sdS dd)) (s6 _ _ hh5)
        rw [home_at] at g
        exact g
      · rw [List.length_map, List.length_take]
        have := endsTo_len r (table false r) 3
        have : (endsL r (table false r)).length ≤ 3 := this
        exact sz_lt (by omega)
      · exact Same.mut s6 nD
      · rw [upd_same, List.map_append]
        rfl
    · obtain ⟨s7, hD7⟩ := h
      rw [hlen, List.take_of_length_le (Nat.le_refl _)] at hD7
      have e7 : ((endsL r (table false r)).map fun e => V.int (e.1 + homeOf r e.2.1)) = (((endsL r (table false r)).map fun e => e.1 + homeOf r e.2.1).map V.int) := by
        rw [List.map_map]
        rfl
      rw [e7] at hD7
      refine ⟨D, _, rfl, SqL.of hD7, ?_, fun m hm hle => ?_⟩
      · rw [List.length_map]
        exact List.length_pos_iff.mpr (endsL_ne hR)
      · obtain ⟨e, he, rfl⟩ := List.mem_map.mp hm
        obtain ⟨p1, p2, p3⟩ := end_play hR (mem_endsL.mp he)
        refine q H' _ ((s03.trans s4).trans (s5.trans s7)) ⟨e.2.2, p1, by rw [p2, p3]⟩ fun ww hw => ?_
        obtain ⟨n', w2, f1, f2⟩ := play_end (m := false) hR hw
        have hm2 : (n', lastd none ww, w2) ∈ endsL r (table false r) := mem_endsL.mpr f1
        have g1 := hle _ (List.mem_map.mpr ⟨_, hm2, rfl⟩)
        have g2 : n' ≤ walk ww := f2
        have g1 : e.1 + homeOf r e.2.1 ≤ n' + homeOf r (lastd none ww) := g1
        omega
end
end KX
end L2
namespace L2
namespace KX
open PySem PySem.W PySem.Spec PyProof.Rows
open KL
/-- the script, which nobody changes -/
def Scr (K : PySem.W.Frag) (H : Hp) (sc : Addr) (ns : List Int) : Prop :=
  (∃ o, H sc = some (.frz o (.lst (ns.map V.int)))) ∨
    ∃ (o : Obj) (its : Array Value) (n : Nat), K.lookup sc = some o ∧ o.cls = .type "list" ∧ o.dict = none ∧ o.data = .seq its n ∧ its.size ≤ sizeLine ∧ Vals (ns.map V.int) its.toList
theorem Scr.sq {K : PySem.W.Frag} {H : Hp} {sc : Addr} {ns : List Int} (h : Scr K H sc ns) : SqL K H sc (ns.map V.int) := by
  rcases h with ⟨o, h⟩ | h
  · exact .inl (.inr ⟨o, h⟩)
  · exact .inr h
theorem Scr.sd {K : PySem.W.Frag} {H H' : Hp} {a sc : Addr} {ns : List Int} {xs : List V} (h : Scr K H sc ns) (ha : H a = some (.lst xs)) (s : Sd a H H') : Scr K H' sc ns := by
  rcases h with ⟨o, h⟩ | h
  · exact .inl ⟨o, s _ _ (ne_of h ha fun z => nomatch z) h⟩
  · exact .inr h
theorem Scr.same {K : PySem.W.Frag} {H H' : Hp} {sc : Addr} {ns : List Int} (h : Scr K H sc ns) (s : Same H H') : Scr K H' sc ns := by
  rcases h with ⟨o, h⟩ | h
  · exact .inl ⟨o, s _ _ h⟩
  · exact .inr h
/-- the row: the script, the place, the mixed number, the rest -/
structure RowAt (K : PySem.W.Frag) (H : Hp) (a sc : Addr) (ns : List Int) (i sd rs : Int) : Prop where
  at_ : H a = some (.lst [.ref sc, .int i, .int sd, .int rs])
  scr : Scr K H sc ns
  i0 : 0 ≤ i
  s0 : 0 ≤ sd
  s1 : sd < 2147483647
/-- some row, all else as it was -/
def RowTo (K : PySem.W.Frag) (H H' : Hp) (a sc : Addr) (ns : List Int) : Prop := Sd a H H' ∧ ∃ i sd rs, RowAt K H' a sc ns i sd rs
section
variable {P : Program} {w : World} {K : PySem.W.Frag} {mg : Str → Option Value} {base : Heap}
def spTaken (K : PySem.W.Frag) : Sp := fun vs H Q _ => ∃ (a sc : Addr) (ns : List Int) (i sd rs m : Int), vs = [.ref a, .int m] ∧ RowAt K H a sc ns i sd rs ∧ 0 < m ∧ m < 1000000 ∧ ∀ H' v, RowTo K H H' a sc ns → 0 ≤ v → v < m → Q (.int v) H'
theorem ok_taken (T : Txt K mg) : FnOk P w K mg base CX0 1 T.lTaken.f T.lTaken.fd ["_law_row", "_law_many"] (spTaken K) := by
  refine T.lTaken.F.ok scLTaken (fun vs H Q E h => ?_) (fun cdv A outer s H vs Q E hr h => ?_)
  · obtain ⟨a, sc, ns, i, sd, rs, m, rfl, _⟩ := h
    rfl
  · obtain ⟨a, sc, ns, i, sd, rs, m, rfl, hR, hm0, hm1, q⟩ := h
    refine ⟨_, (pss_cons (ps_if (pt_cmpR op_gt (pe_ix ix_list (pv 0) pe_int (fun _ _ => rfl)) pe_int (nomark _)) (pss_cons (ps_set (i := 2) scLTaken.nd rfl (Or.inl rfl) (pe_op op_mod (pe_callTy call_int1 (by rfl) T.z_int boot_int (pa_cons (pe_ix ix_list (pv 0) pe_int (fun _ _ => rfl)) pa_nil)) (pv 1)))
      (pss_cons (ps_asg (pe_op op_fdiv (pe_ix ix_list (pv 0) pe_int (fun _ _ => rfl)) (pv 1)) (pg_sub (pv 0) pe_int set_list))
      (pss_one (ps_ret (pv 2))))) pss_nil)
      (pss_cons (ps_asg (pe_op op_add (pe_ix ix_list (pv 0) pe_int (fun _ _ => rfl)) pe_int) (pg_sub (pv 0) pe_int set_list))
      (pss_cons (ps_if (pt_cmpR op_gt (pe_ix ix_list (pv 0) pe_int (fun _ _ => rfl)) (pe_callB call_len_seq (by rfl) T.z_len PySem.boot_len (pa_cons (pe_ix ix_list (pv 0) pe_int (fun _ _ => rfl)) pa_nil)) (nomark _)) (pss_cons (ps_asg (pe_op op_mod (pe_callTy call_int1 (by rfl) T.z_int boot_int (pa_cons (pe_op op_add (pe_op op_mul (pe_ix ix_list (pv 0) pe_int (fun _ _ => rfl)) pe_int) pe_int) pa_nil)) pe_int) (pg_sub (pv 0) pe_int set_list))
      (pss_one (ps_ret (pe_op op_mod (pe_callTy call_int1 (by rfl) T.z_int boot_int (pa_cons (pe_op op_fdiv (pe_ix ix_list (pv 0) pe_int (fun _ _ => rfl)) pe_int) pa_nil)) (pv 1))))) pss_nil)
      (pss_cons (ps_set (i := 3) scLTaken.nd rfl (Or.inl rfl) (pe_ix ix_list (pe_ix ix_list (pv 0) pe_int (fun _ _ => rfl)) (pe_op op_sub (pe_ix ix_list (pv 0) pe_int (fun _ _ => rfl)) pe_int) (fun _ _ => rfl)))
      (pss_cons (ps_asg (pe_op op_mod (pe_callTy call_int1 (by rfl) T.z_int boot_int (pa_cons (pe_op op_add (pe_op op_add (pe_op op_mul (pe_ix ix_list (pv 0) pe_int (fun _ _ => rfl)) pe_int) (pv 3)) pe_int) pa_nil)) pe_int) (pg_sub (pv 0) pe_int set_list))
      (pss_cons (ps_if (pt_cmpR op_ge (pv 3) (pe_op op_pow pe_int pe_int) (nomark _)) (pss_one (ps_asg (pe_op op_fdiv (pv 3) (pv 1)) (pg_sub (pv 0) pe_int set_list))) pss_nil)
      (pss_one (ps_ret (pe_op op_mod (pe_callTy call_int1 (by rfl) T.z_int boot_int (pa_cons (pv 3) pa_nil)) (pv 1)))))))))), ?_⟩
    have hmk : ∀ (i' sd' rs' : Int), 0 ≤ i' → 0 ≤ sd' → sd' < 2147483647 → RowTo K H (upd H a (.lst [.ref sc, .int i', .int sd', .int rs'])) a sc ns := fun i' sd' rs' h1 h2 h3 =>
      ⟨Sd.upd, i', sd', rs', upd_same, hR.scr.sd hR.at_ Sd.upd, h1, h2, h3⟩
    have hCD : CDiv sd 7 := ⟨by decide, by decide⟩
    refine ⟨.ref a, rfl, a, _, 3, .int rs, rfl, rfl, SqL.of hR.at_, rfl, rs, 0, rfl, rfl, _, rfl, ite2 (fun e => ?_) (fun e => ?_)⟩
    · -- the rest of a great cell
      refine ⟨.ref a, rfl, a, _, 3, .int rs, rfl, rfl, SqL.of hR.at_, rfl, .inl ⟨rs, rfl, .int m, rfl, rs, m, rfl, rfl, hm0, ?_⟩⟩
      refine ⟨.ref a, rfl, a, _, 3, .int rs, rfl, rfl, SqL.of hR.at_, rfl, .int m, rfl, rs, m, rfl, rfl, ⟨hm0, by omega⟩, .ref a, rfl, a, _, 3, 3, rfl, rfl, hR.at_, rfl, ?_⟩
      exact ⟨.int (rs % m), rfl, q _ _ (hmk i sd (rs / m) hR.i0 hR.s0 hR.s1) (Int.emod_nonneg _ (by omega)) (Int.emod_lt_of_pos _ hm0)⟩
    · -- the next cell
      refine ⟨.ref a, rfl, a, _, 1, .int i, rfl, rfl, SqL.of hR.at_, rfl, i, 1, rfl, rfl, .ref a, rfl, a, _, 1, 1, rfl, rfl, hR.at_, rfl, ?_⟩
      have h1 : (upd H a (.lst [.ref sc, .int (i + 1), .int sd, .int rs])) a = some (.lst [.ref sc, .int (i + 1), .int sd, .int rs]) := upd_same
      have scr1 : Scr K (upd H a (.lst [.ref sc, .int (i + 1), .int sd, .int rs])) sc ns := hR.scr.sd hR.at_ Sd.upd
      refine ⟨.ref a, rfl, a, _, 1, .int (i + 1), rfl, rfl, SqL.of h1, rfl, .ref a, rfl, a, _, 0, .ref sc, rfl, rfl, SqL.of h1, rfl, sc, _, rfl, .inl scr1.sq, i + 1, ((ns.map V.int).length : Int), rfl, rfl, _, rfl, ite2 (fun e2 => ?_) (fun e2 => ?_)⟩
      · -- mixed numbers
        refine ⟨.ref a, rfl, a, _, 2, .int sd, rfl, rfl, SqL.of h1, rfl, sd, 48271, rfl, rfl, .inl ⟨by have := hR.s0; omega, by have := hR.s1; omega⟩, sd * 48271, 11, rfl, rfl, .inl ⟨sd * 48271 + 11, rfl, sd * 48271 + 11, 2147483647, rfl, rfl, (by decide : (0 : Int) < 2147483647), .ref a, rfl, a, _, 2, 2, rfl, rfl, h1, rfl, ?_⟩⟩
        rw [upd_upd]
        have h2 : (upd H a (.lst [.ref sc, .int (i + 1), .int ((sd * 48271 + 11) % 2147483647), .int rs])) a = some (.lst [.ref sc, .int (i + 1), .int ((sd * 48271 + 11) % 2147483647), .int rs]) := upd_same
        refine ⟨.ref a, rfl, a, _, 2, .int ((sd * 48271 + 11) % 2147483647), rfl, rfl, SqL.of h2, rfl, (sd * 48271 + 11) % 2147483647, 7, rfl, rfl, ⟨by decide, by decide⟩, .inl ⟨_, rfl, .int m, rfl, _, m, rfl, rfl, hm0, ?_⟩⟩
        exact q _ _ (hmk (i + 1) _ rs (by have := hR.i0; omega) (Int.emod_nonneg _ (by decide)) (Int.emod_lt_of_pos _ (by decide))) (Int.emod_nonneg _ (by omega)) (Int.emod_lt_of_pos _ hm0)
      · -- a cell
        have hi : i.toNat < ns.length := by
          have q1 := hR.i0
          have q2 : ¬ (i + 1 > ((ns.map V.int).length : Int)) := fun z => e2 (decide_eq_true z)
          rw [List.length_map] at q2
          omega
        have hcell : (ns.map V.int)[i.toNat]? = some (.int ns[i.toNat]) := by
          rw [List.getElem?_map, List.getElem?_eq_getElem hi]
          rfl
        generalize ns[i.toNat] = z at hcell
        refine ⟨.ref a, rfl, a, _, 0, .ref sc, rfl, rfl, SqL.of h1, rfl, .ref a, rfl, a, _, 1, .int (i + 1), rfl, rfl, SqL.of h1, rfl, i + 1, 1, rfl, rfl, sc, _, i + 1 - 1, .int z, rfl, rfl, scr1.sq, at_of (j := i.toNat) (by have := hR.i0; omega) hcell, ?_⟩
        refine ⟨.ref a, rfl, a, _, 2, .int sd, rfl, rfl, SqL.of h1, rfl, sd, 48271, rfl, rfl, .inl ⟨by have := hR.s0; omega, by have := hR.s1; omega⟩, .int z, rfl, sd * 48271, z, rfl, rfl, sd * 48271 + z, 11, rfl, rfl, .inl ⟨sd * 48271 + z + 11, rfl, sd * 48271 + z + 11, 2147483647, rfl, rfl, (by decide : (0 : Int) < 2147483647), .ref a, rfl, a, _, 2, 2, rfl, rfl, h1, rfl, ?_⟩⟩
        rw [upd_upd]
        have h2 : (upd H a (.lst [.ref sc, .int (i + 1), .int ((sd * 48271 + z + 11) % 2147483647), .int rs])) a = some (.lst [.ref sc, .int (i + 1), .int ((sd * 48271 + z + 11) % 2147483647), .int rs]) := upd_same
        refine ⟨.int z, rfl, 10, 18, rfl, rfl, ⟨by decide, by decide, by decide⟩, z, 10 ^ (18 : Int).toNat, rfl, rfl, _, rfl, ite2 (fun e3 => ?_) (fun e3 => ?_)⟩
        · refine ⟨.int z, rfl, .int m, rfl, z, m, rfl, rfl, ⟨hm0, by omega⟩, .ref a, rfl, a, _, 3, 3, rfl, rfl, h2, rfl, ?_⟩
          rw [upd_upd]
          refine ⟨.int z, rfl, .inl ⟨z, rfl, .int m, rfl, z, m, rfl, rfl, hm0, ?_⟩⟩
          exact q _ _ (hmk (i + 1) _ (z / m) (by have := hR.i0; omega) (Int.emod_nonneg _ (by decide)) (Int.emod_lt_of_pos _ (by decide))) (Int.emod_nonneg _ (by omega)) (Int.emod_lt_of_pos _ hm0)
        · refine ⟨.int z, rfl, .inl ⟨z, rfl, .int m, rfl, z, m, rfl, rfl, hm0, ?_⟩⟩
          exact q _ _ (hmk (i + 1) _ rs (by have := hR.i0; omega) (Int.emod_nonneg _ (by decide)) (Int.emod_lt_of_pos _ (by decide))) (Int.emod_nonneg _ (by omega)) (Int.emod_lt_of_pos _ hm0)
end
end KX
end L2
namespace L2
namespace KX
open PySem PySem.W PySem.Spec PyProof.Rows
open KL
theorem boot_list : bootBuiltins "list" = some (.type "list") := by decide +kernel
/-- the room that the last step enters -/
def roomOf (w : List Sg) : Int :=
  match lastd none w with
  | none => 0
  | some .L => -((pathEnd (0, 0) w).1 : Nat)
  | some .R => ((pathEnd (0, 0) w).2 : Nat)
theorem room_home {r : Rg} {w : List Sg} (h : IsPlay r w) : (if roomOf w < 0 then -roomOf w else roomOf w) = homeOf r (lastd none w) := by
  unfold roomOf homeOf
  rw [h.2]
  rcases lastd none w with _ | _ | _
  · rfl
  · show (if -(((fin r).1 : Nat) : Int) < 0 then -(-(((fin r).1 : Nat) : Int)) else -(((fin r).1 : Nat) : Int)) = (((fin r).1 : Nat) : Int)
    split <;> omega
  · show (if (((fin r).2 : Nat) : Int) < 0 then -(((fin r).2 : Nat) : Int) else (((fin r).2 : Nat) : Int)) = (((fin r).2 : Nat) : Int)
    split <;> omega
theorem roomOf_L (v : List Sg) : roomOf (v ++ [.L]) = -(((pathEnd (0, 0) v).1 + 1 : Nat) : Int) := by
  unfold roomOf
  rw [lastd_snoc, pathEnd_snoc]
  rfl
theorem roomOf_R (v : List Sg) : roomOf (v ++ [.R]) = (((pathEnd (0, 0) v).2 + 1 : Nat) : Int) := by
  unfold roomOf
  rw [lastd_snoc, pathEnd_snoc]
  rfl
def roomsTo (w : List Sg) (i : Nat) : List Int := (List.range (i + 1)).map fun j => roomOf (w.take j)
theorem roomsTo_succ (w : List Sg) (i : Nat) : roomsTo w (i + 1) = roomsTo w i ++ [roomOf (w.take (i + 1))] := by
  unfold roomsTo
  rw [List.range_succ, List.map_append]
  rfl
theorem roomsTo_len (w : List Sg) (i : Nat) : (roomsTo w i).length = i + 1 := by unfold roomsTo; simp
section
variable {P : Program} {w : World} {K : PySem.W.Frag} {mg : Str → Option Value} {base : Heap}
def spAlike : Sp := fun vs H Q _ => ∃ x y : Int, vs = [.int x, .int y] ∧ ∀ H', Same H H' → Q (.bl (decide (x = y))) H'
theorem ok_alike (T : Txt K mg) : FnOk P w K mg base CX0 1 T.lAlike.f T.lAlike.fd ["_law_found", "_law_due"] spAlike := by
  refine T.lAlike.F.ok scLAlike (fun vs H Q E h => ?_) (fun cdv A outer s H vs Q E hr h => ?_)
  · obtain ⟨x, y, rfl, _⟩ := h
    rfl
  · obtain ⟨x, y, rfl, q⟩ := h
    refine ⟨_, (pss_cons (ps_if (pt_val (pe_callB call_isiT (by rfl) T.z_isinstance boot_isinstance (pa_cons (pv 1) (pa_cons (pe_tup (pa_cons (pe_bltn (v := V.ty "tuple") (by rfl) T.z_tuple boot_tuple rfl) (pa_cons (pe_bltn (v := V.ty "list") (by rfl) T.z_list boot_list rfl) pa_nil))) pa_nil)))) pss_never pss_nil)
      (pss_cons (ps_if (PW.pt (pw_or (pt_cmpR op_isN (pv 1) pe_non (nomark _)) (pw_or1 (pt_val (pe_isi (pv 1) T.z_isinstance T.z_str boot_str))))) pss_never pss_nil)
      (pss_one (ps_ret (pe_and (pe_isi (pv 0) T.z_isinstance T.z_int boot_int) (pe_and (pe_cmpR op_eq (pe_isi (pv 0) T.z_isinstance T.z_bool boot_bool) (pe_isi (pv 1) T.z_isinstance T.z_bool boot_bool) (nomark _)) (pe_one (pe_cmpR op_eq (pv 0) (pv 1) (nomark _))))))))), ?_⟩
    refine ⟨.int y, rfl, by show 2 ≤ sizeLine; decide, fun tp ntp => ?_⟩
    have s1 : Same H (upd H tp (.tup [.ty "tuple", .ty "list"])) := Same.new ntp
    have htp : (upd H tp (.tup [.ty "tuple", .ty "list"])) tp = some (.tup [.ty "tuple", .ty "list"]) := upd_same
    generalize upd H tp (.tup [.ty "tuple", .ty "list"]) = H1 at s1 htp ⊢
    refine ⟨.int y, tp, _, _, [.type "tuple", .type "list"], false, rfl, htp, .cons (.ty _) (.cons (.ty _) .nil), .base (.int y), kitAny_cons (b := false) (kit_ty (by decide +kernel)) (fun _ => kitAny_cons (b := false) (kit_ty (by decide +kernel)) (fun _ => kitAny_nil) fun z => nomatch z) (fun z => nomatch z), false, rfl, iteF ?_⟩
    refine ⟨.int y, rfl, rfl, _, rfl, iteF ⟨.int y, rfl, _, _, _, _, false, rfl, .ty _, .base (.int y), kit_ty (by decide +kernel), false, rfl, iteF ?_⟩⟩
    refine ⟨.int x, rfl, _, _, _, _, true, rfl, .ty _, .base (.int x), kit_ty (by decide +kernel), true, rfl, iteT ?_⟩
    refine ⟨.int x, rfl, _, _, _, _, false, rfl, .ty _, .base (.int x), kit_ty (by decide +kernel), .int y, rfl, _, _, _, _, false, rfl, .ty _, .base (.int y), kit_ty (by decide +kernel), rfl, true, rfl, iteT ?_⟩
    refine ⟨.int x, rfl, .int y, rfl, rfl, ?_⟩
    have e : decide (V.int x = V.int y) = decide (x = y) := by
      by_cases h : x = y
      · subst h; simp
      · rw [decide_eq_false h, decide_eq_false fun z => h (V.int.inj z)]
    show Q (.bl (decide (V.int x = V.int y))) H1
    rw [e]
    exact q H1 s1
theorem ok_lafter (T : Txt K mg) : FnOk P w K mg base CX0 1 T.lAfter.f T.lAfter.fd ["_law_span", "_law_sign"] spAfter := by
  refine T.lAfter.F.ok scLAfter (fun vs H Q E h => ?_) (fun cdv A outer s H vs Q E hr h => ?_)
  · obtain ⟨p, u, c, rfl, _⟩ := h
    rfl
  · obtain ⟨p, u, c, rfl, hp, q⟩ := h
    refine ⟨_, (pss_one (ps_ret (pe_ifExp (pt_cmpR op_eq (pv 1) pe_str (nomark _)) (pe_tup (pa_cons (pe_op op_add (pe_ix ix_tup (pv 0) pe_int (fun _ _ => rfl)) pe_int) (pa_cons (pe_ix ix_tup (pv 0) pe_int (fun _ _ => rfl)) pa_nil))) (pe_tup (pa_cons (pe_ix ix_tup (pv 0) pe_int (fun _ _ => rfl)) (pa_cons (pe_op op_add (pe_ix ix_tup (pv 0) pe_int (fun _ _ => rfl)) pe_int) pa_nil)))))), ?_⟩
    refine ⟨.str (sgS c), rfl, rfl, _, rfl, ?_⟩
    rw [sg_L]
    cases c
    · refine iteT ⟨.ref p, rfl, p, _, 0, _, rfl, rfl, SqT.of hp, rfl, (u.1 : Int), 1, rfl, rfl, .ref p, rfl, p, _, 1, _, rfl, rfl, SqT.of hp, rfl, by show 2 ≤ sizeLine; decide, fun p' hp' => ?_⟩
      exact q _ p' (Same.new hp') hp' (at2_new (by show (u.1 : Int) + 1 = ((u.1 + 1 : Nat) : Int); omega) rfl)
    · refine iteF ⟨.ref p, rfl, p, _, 0, _, rfl, rfl, SqT.of hp, rfl, .ref p, rfl, p, _, 1, _, rfl, rfl, SqT.of hp, rfl, (u.2 : Int), 1, rfl, rfl, by show 2 ≤ sizeLine; decide, fun p' hp' => ?_⟩
      exact q _ p' (Same.new hp') hp' (at2_new rfl (by show (u.2 : Int) + 1 = ((u.2 + 1 : Nat) : Int); omega))
theorem ok_lspans (T : Txt K mg) : FnOk P w K mg base CX0 1 T.lSpans.f T.lSpans.fd ["_law_shape"] spSpans := by
  refine T.lSpans.F.ok scLSpans (fun vs H Q E h => ?_) (fun cdv A outer s H vs Q E hr h => ?_)
  · obtain ⟨a, r, rfl, _⟩ := h
    rfl
  · obtain ⟨a, r, rfl, hA, hR, q⟩ := h
    refine ⟨_, (pss_cons (ps_set (i := 1) scLSpans.nd rfl (Or.inl rfl) (pe_lst pa_nil))
      (pss_cons (ps_for PassesOwn.never rfl (pi_range1 (by rfl) T.z_range (pa_cons (pe_callB call_len_seq (by rfl) T.z_len PySem.boot_len (pa_cons (pv 0) pa_nil)) pa_nil)) (pg_name (i := 2) scLSpans.nd rfl (Or.inr rfl))
      (pss_one (ps_set (i := 1) scLSpans.nd rfl (Or.inl rfl) (pe_op op_cat (pv 1) (pe_lc (X := (cxOf CX0 P w K mg base nLSpans "_law_spans" (defScope sLSpans) T.lSpans.f cdv A outer s H E).nox) (own := [("_law_y", 3)]) rfl scLSpans.nd (pi_range2 (by rfl) T.z_range (pa_cons (pe_ix ix_tup (pe_ix ix_tup (pv 0) (pv 2) (fun _ _ => rfl)) pe_int (fun _ _ => rfl)) (pa_cons (pe_op op_add (pe_ix ix_tup (pe_ix ix_tup (pv 0) (pv 2) (fun _ _ => rfl)) pe_int (fun _ _ => rfl)) pe_int) pa_nil))) (blkOk_by (N := nLSpans) (sc := defScope sLSpans) (own := [("_law_y", 3)]) (by decide +kernel)) (fun _ _ _ _ _ => (pg_name (i := 3) scLSpans.nd rfl (Or.inl rfl))) (fun _ _ _ _ _ => pts_nil) (fun _ _ _ _ _ => (pe_tup (pa_cons (pv 2) (pa_cons (pv 3) pa_nil)))))))))
      (pss_one (ps_ret (pv 1))))), ?_⟩
    obtain ⟨cs, h1, h2, h3⟩ := hA.col
    have hl5 := hR.len
    refine ⟨by show 0 ≤ sizeLine; decide, fun l0 n0 => ?_⟩
    have s0 : Same H (upd H l0 (.lst [])) := Same.new n0
    refine ⟨.ref a, rfl, a, _, rfl, .inr (SqT.of (s0 _ _ h1)), (((cs.map V.ref).length : Nat) : Int), rfl, by omega, by omega, for_range (n := ((((cs.map V.ref).length : Nat) : Int)).toNat) (fun i σ H' => ∃ l y2 y3, σ = [some (.ref a), some (.ref l), y2, y3] ∧ Same H H' ∧ SpAt H' l (spansTo r i)) ⟨l0, none, none, rfl, s0, [], upd_same, .nil⟩ (fun i σ H' hi h => ?_) (fun σ H' h => ?_)⟩
    · obtain ⟨l, y2, y3, rfl, sm, us⟩ := h
      have hi : i < r.length := by rw [h2] at hi; omega
      obtain ⟨c, e3, e4⟩ := h3 i hi
      have hcol := hR.col i hi
      have hc := sm _ _ e4
      have ha := sm _ _ h1
      have e0 : (0 : Int) + (i : Nat) = (i : Nat) := by omega
      rw [e0]
      -- the list so far
      refine ⟨.ref l, rfl, ?_⟩
      refine ⟨.ref a, rfl, .int (i : Nat), rfl, a, _, (i : Nat), .ref c, rfl, rfl, SqT.of ha, atI_nat e3, c, _, 0, _, rfl, rfl, SqT.of hc, rfl, .ref a, rfl, .int (i : Nat), rfl, a, _, (i : Nat), .ref c, rfl, rfl, SqT.of ha, atI_nat e3, c, _, 1, _, rfl, rfl, SqT.of hc, rfl, (chi r i : Int), 1, rfl, rfl, (clo r i : Int), (chi r i : Int) + 1, rfl, ⟨by omega, by omega, by omega, by omega⟩, ?_⟩
      have en : (((chi r i : Int) + 1) - (clo r i : Int)).toNat = chi r i + 1 - clo r i := by omega
      rw [en]
      intro D nD
      refine lc_it walk_range (fun j H2 => Same H' H2 ∧ SpAt H2 D ((colSp r i).take j)) ⟨Same.new nD, [], upd_same, .nil⟩ (fun _ _ _ _ => trivial) (fun j x H3 H4 hj h y => ?_) (fun H2 h => ?_)
      · obtain ⟨rfl, rfl⟩ := y
        obtain ⟨s3, cs3, hD3, hp3⟩ := h
        refine ⟨rfl, ?_⟩
        refine ⟨.int (i : Nat), rfl, _, rfl, by show 2 ≤ sizeLine; decide, fun p np => ?_⟩
        have sn2 : Same H4 (upd H4 p (.tup [.int (i : Nat), .int ((clo r i : Int) + (j : Nat))])) := Same.new np
        refine ⟨cs3.map V.ref, sn2 _ _ hD3, ?_, Same.mut (s3.trans sn2) nD, ?_⟩
        · rw [List.length_map, hp3.length, List.length_take, colSp_len]
          exact sz_lt (by omega)
        · rw [colSp_take r i j hj]
          exact SpAt.snoc (sn2 _ _ hD3) (Paired.mapP hp3 fun _ _ z => z.same sn2) (at2_new rfl (by show (clo r i : Int) + (j : Nat) = ((clo r i + j : Nat) : Int); omega))
      · obtain ⟨s2, cs2, hD2, hp2⟩ := h
        rw [List.take_of_length_le (by rw [colSp_len]; exact Nat.le_refl _)] at hp2
        obtain ⟨cl, hl, hpl⟩ := us
        refine ⟨l, D, cl.map V.ref, cs2.map V.ref, rfl, rfl, s2 _ _ hl, hD2, ?_, fun p np => ?_⟩
        · rw [List.length_map, List.length_map, hpl.length, hp2.length, colSp_len]
          have := spansTo_len hR i (by omega)
          exact sz_le (by omega)
        · refine ⟨p, _, _, rfl, (sm.trans s2).trans (Same.new np), cl ++ cs2, by rw [upd_same, List.map_append], ?_⟩
          rw [spansTo_succ]
          have sn : Same H2 (upd H2 p (.lst (cl.map V.ref ++ cs2.map V.ref))) := Same.new np
          have pa : ∀ {x y : List Addr} {us vs : List Spn}, Paired (At2 (upd H2 p (.lst (cl.map V.ref ++ cs2.map V.ref)))) x us → Paired (At2 (upd H2 p (.lst (cl.map V.ref ++ cs2.map V.ref)))) y vs → Paired (At2 (upd H2 p (.lst (cl.map V.ref ++ cs2.map V.ref)))) (x ++ y) (us ++ vs) := by
            intro x y us vs h1 h2
            induction h1 with
            | nil => exact h2
            | cons a _ ih => exact .cons a ih
          exact pa (Paired.mapP hpl fun _ _ z => (z.same s2).same sn) (Paired.mapP hp2 fun _ _ z => z.same sn)
    · obtain ⟨l, y2, y3, rfl, sm, us⟩ := h
      rw [h2] at us
      exact ⟨.ref l, rfl, q H' l sm us⟩
theorem ok_lpath (T : Txt K mg) : FnOk P w K mg base CX0 2 T.lPath.f T.lPath.fd ["_law_word"] spSpansOn := by
  refine T.lPath.F.ok scLPath (fun vs H Q E h => ?_) (fun cdv A outer s H vs Q E hr h => ?_)
  · obtain ⟨ww, rfl, _⟩ := h
    rfl
  · obtain ⟨ww, rfl, hl, q⟩ := h
    refine ⟨_, (pss_cons (ps_set (i := 1) scLPath.nd rfl (Or.inl rfl) (pe_lst (pa_cons (pe_tup (pa_cons pe_int (pa_cons pe_int pa_nil))) pa_nil)))
      (pss_cons (ps_for PassesOwn.never rfl (pi_str (pv 0)) (pg_name (i := 2) scLPath.nd rfl (Or.inl rfl))
      (pss_one (ps_expr (pe_bm PySem.F.plainAttrs_list PySem.F.slot_list_append PySem.F.type_list_append mt_append (pv 1) (pa_cons (pe_c T.lAfter (ok_lafter T) (hr.mono (by decide)) (pa_cons (pe_ix ix_list (pv 1) (pe_un un_neg pe_int) (fun _ _ => rfl)) (pa_cons (pv 2) pa_nil))) pa_nil)))))
      (pss_one (ps_ret (pv 1))))), ?_⟩
    refine ⟨by show 2 ≤ sizeLine; decide, fun p0 n0 => ⟨by show 1 ≤ sizeLine; decide, fun l nl => ?_⟩⟩
    have s0 : Same H (upd H p0 (.tup [.int 0, .int 0])) := Same.new n0
    have s1 : Same H (upd (upd H p0 (.tup [.int 0, .int 0])) l (.lst [.ref p0])) := s0.trans (Same.new nl)
    have nlH : H l = none := Same.free s0 nl
    refine ⟨.str (wordS ww), rfl, wordS ww, rfl, for_it walk_str (fun i σ H' => ∃ y, σ = [some (.str (wordS ww)), some (.ref l), y] ∧ Same H H' ∧ SpAt H' l (wayTo ww i)) ⟨none, rfl, s1, [p0], upd_same, .cons ?_ .nil⟩ (fun _ _ _ _ _ => trivial) (fun i x σ H1 H2 hi h y => ?_) (fun σ H' h => ?_)⟩
    · unfold At2
      rw [upd_ne (ne_of_none upd_same nl), upd_same]
      rfl
    · obtain ⟨y0, rfl, sm, us⟩ := h
      obtain ⟨rfl, c, hc, rfl⟩ := y
      obtain ⟨g, hg, eg⟩ := word_sign hc
      rw [eg]
      obtain ⟨cs, h1, h2⟩ := us
      obtain ⟨c0, e1, e2⟩ := paired_get' h2 (wayTo_get ww i i (Nat.le_refl _))
      have hlen : (cs.map V.ref).length = i + 1 := by rw [List.length_map, h2.length, wayTo_len]
      rw [wordS_size] at hi
      refine ⟨.ref l, rfl, .inl ⟨rfl, _, SqL.of h1⟩, .ref l, rfl, 1, rfl, l, _, -1, .ref c0, rfl, rfl, SqL.of h1, at_last hlen (by rw [List.getElem?_map, e1]; rfl), .str (sgS g), rfl, c0, _, g, rfl, e2, fun H3 p s3 np hp => ?_⟩
      refine ⟨l, _, _, rfl, rfl, s3 _ _ h1, by rw [hlen]; exact sz_lt (by omega), ⟨_, rfl, Same.mut (sm.trans s3) nlH, ?_⟩⟩
      rw [wayTo_succ, take_succ_of hg, pathEnd_snoc]
      exact SpAt.snoc (s3 _ _ h1) (Paired.mapP h2 fun _ _ z => z.same s3) hp
    · obtain ⟨y0, rfl, sm, us⟩ := h
      rw [wordS_size] at us
      exact ⟨.ref l, rfl, q H' l sm us⟩
def spRooms : Sp := fun vs H Q _ => ∃ ww : List Sg, vs = [.str (wordS ww)] ∧ ww.length ≤ 1000 ∧ ∀ H' l, Same H H' → H' l = some (.lst ((roomsTo ww ww.length).map V.int)) → Q (.ref l) H'
theorem ok_lrooms (T : Txt K mg) : FnOk P w K mg base CX0 3 T.lRooms.f T.lRooms.fd ["_law_word"] spRooms := by
  refine T.lRooms.F.ok scLRooms (fun vs H Q E h => ?_) (fun cdv A outer s H vs Q E hr h => ?_)
  · obtain ⟨ww, rfl, _⟩ := h
    rfl
  · obtain ⟨ww, rfl, hl, q⟩ := h
    refine ⟨_, (pss_cons (ps_set (i := 1) scLRooms.nd rfl (Or.inl rfl) (pe_lst (pa_cons pe_int pa_nil)))
      (pss_cons (ps_for PassesOwn.never rfl (pi_zipS (by rfl) T.z_zip (pa_cons (pe_c T.lPath (ok_lpath T) (hr.mono (by decide)) (pa_cons (pv 0) pa_nil)) (pa_cons (pv 0) pa_nil))) (pg_tup rfl (pgs_cons (pg_name (i := 2) scLRooms.nd rfl (Or.inl rfl)) (pgs_cons (pg_name (i := 3) scLRooms.nd rfl (Or.inl rfl)) pgs_nil)))
      (pss_one (ps_expr (pe_bm PySem.F.plainAttrs_list PySem.F.slot_list_append PySem.F.type_list_append mt_append (pv 1) (pa_cons (pe_ifExp (pt_cmpR op_eq (pv 3) pe_str (nomark _)) (pe_op op_sub (pe_op op_sub pe_int (pe_ix ix_tup (pv 2) pe_int (fun _ _ => rfl))) pe_int) (pe_op op_add (pe_ix ix_tup (pv 2) pe_int (fun _ _ => rfl)) pe_int)) pa_nil)))))
      (pss_one (ps_ret (pv 1))))), ?_⟩
    refine ⟨by show 1 ≤ sizeLine; decide, fun l nl => ?_⟩
    have s1 : Same H (upd H l (.lst [.int 0])) := Same.new nl
    refine ⟨.str (wordS ww), rfl, ww, rfl, hl, fun H3 lp s3 us => ?_⟩
    have hl3 := s3 _ _ (upd_same (H := H) (a := l) (o := .lst [.int 0]))
    obtain ⟨cs, hlp, hcs⟩ := us
    have ecs : (cs.map V.ref).length = ww.length + 1 := by rw [List.length_map, hcs.length, wayTo_len]
    have nlp : lp ≠ l := fun e => by
      subst e
      rw [hl3] at hlp
      have e := HO.lst.inj (Option.some.inj hlp)
      cases cs with
      | nil => cases e
      | cons c cs => injection e with e1 _; cases e1
    refine ⟨.str (wordS ww), rfl, lp, cs.map V.ref, wordS ww, rfl, SqL.of hlp, for_it (walk_zipS (xs := cs.map V.ref) (by rw [wordS_size, ecs]; omega))
      (fun i σ H' => ∃ y2 y3, σ = [some (.str (wordS ww)), some (.ref l), y2, y3] ∧ Sd l H3 H' ∧ H' l = some (.lst ((roomsTo ww i).map V.int))) ⟨none, none, rfl, Sd.refl l H3, hl3⟩ (fun i σ H' _ h => ?_) (fun i x σ H4 H5 hi h y => ?_) (fun σ H' h => ?_)⟩
    · obtain ⟨_, _, _, sm, _⟩ := h
      exact SqL.of (sm _ _ nlp hlp)
    · obtain ⟨y2, y3, rfl, sm, hll⟩ := h
      obtain ⟨t, x1, c, rfl, nt, rfl, e1, e2⟩ := y
      obtain ⟨g, hg, eg⟩ := word_sign e2
      rw [eg]
      rw [wordS_size] at hi
      obtain ⟨c0, f1, f2⟩ := paired_get' hcs (wayTo_get ww ww.length i (by omega))
      obtain rfl : x1 = .ref c0 := by
        rw [List.getElem?_map, f1] at e1
        exact (Option.some.inj e1).symm
      have s5 : Same H4 (upd H4 t (.tup [.ref c0, .str (sgS g)])) := Same.new nt
      have ht : (upd H4 t (.tup [.ref c0, .str (sgS g)])) t = some (.tup [.ref c0, .str (sgS g)]) := upd_same
      have hc0 : At2 (upd H4 t (.tup [.ref c0, .str (sgS g)])) c0 (pathEnd (0, 0) (ww.take i)) := s5 _ _ (sm _ _ (ne_of f2 hl3 fun z => nomatch z) f2)
      generalize upd H4 t (.tup [.ref c0, .str (sgS g)]) = H6 at s5 ht hc0 ⊢
      have hl6 := s5 _ _ hll
      refine ⟨t, _, rfl, SqT.of ht, rfl, _, _, rfl, _, _, rfl, rfl, ?_⟩
      refine ⟨.ref l, rfl, .inl ⟨rfl, _, SqL.of hl6⟩, .str (sgS g), rfl, rfl, _, rfl, ?_⟩
      rw [sg_L]
      have fin : ∀ z : Int, z = roomOf (ww.take (i + 1)) → (∃ l_1 xs y, V.ref l = .ref l_1 ∧ [V.int z] = [y] ∧ H6 l_1 = some (.lst xs) ∧ xs.length < sizeLine ∧ ∃ y2 y3, ([some (.str (wordS ww)), some (.ref l), some (.ref c0), some (.str (sgS g))] : List (Option V)) = [some (.str (wordS ww)), some (.ref l), y2, y3] ∧ Sd l H3 (upd H6 l_1 (.lst (xs ++ [y]))) ∧ (upd H6 l_1 (.lst (xs ++ [y]))) l = some (.lst ((roomsTo ww (i + 1)).map V.int))) := by
        intro z hz
        refine ⟨l, _, _, rfl, rfl, hl6, ?_, _, _, rfl, (sm.trans (Sd.of s5)).trans Sd.upd, ?_⟩
        · rw [List.length_map, roomsTo_len]
          exact sz_lt (by omega)
        · rw [upd_same, roomsTo_succ, hz, List.map_append]
          rfl
      cases g
      · refine iteT ⟨.ref c0, rfl, c0, _, 0, _, rfl, rfl, SqT.of hc0, rfl, 0, ((pathEnd (0, 0) (ww.take i)).1 : Int), rfl, rfl, 0 - ((pathEnd (0, 0) (ww.take i)).1 : Int), 1, rfl, rfl, ?_⟩
        exact fin _ (by rw [take_succ_of hg, roomOf_L]; show (0 : Int) - ((pathEnd (0, 0) (ww.take i)).1 : Int) - 1 = -(((pathEnd (0, 0) (ww.take i)).1 + 1 : Nat) : Int); omega)
      · refine iteF ⟨.ref c0, rfl, c0, _, 1, _, rfl, rfl, SqT.of hc0, rfl, ((pathEnd (0, 0) (ww.take i)).2 : Int), 1, rfl, rfl, ?_⟩
        exact fin _ (by rw [take_succ_of hg, roomOf_R]; show ((pathEnd (0, 0) (ww.take i)).2 : Int) + 1 = (((pathEnd (0, 0) (ww.take i)).2 + 1 : Nat) : Int); omega)
    · obtain ⟨y2, y3, rfl, sm, hll⟩ := h
      rw [wordS_size] at hll
      exact ⟨.ref l, rfl, q H' l (Sd.same (s1.trans s3) nl sm) hll⟩
def spLwalk : Sp := fun vs H Q _ => ∃ ww : List Sg, vs = [.str (wordS ww)] ∧ ww.length ≤ 1000 ∧ ∀ H', Same H H' → Q (.int (walk ww)) H'
theorem ok_lwalk (T : Txt K mg) : FnOk P w K mg base CX0 3 T.lWalk.f T.lWalk.fd ["_law_word"] spLwalk := by
  refine T.lWalk.F.ok scLWalk (fun vs H Q E h => ?_) (fun cdv A outer s H vs Q E hr h => ?_)
  · obtain ⟨ww, rfl, _⟩ := h
    rfl
  · obtain ⟨ww, rfl, hlen, q⟩ := h
    refine ⟨_, (pss_cons (ps_asg (pe_tup (pa_cons pe_int (pa_cons pe_str pa_nil))) (pg_tup rfl (pgs_cons (pg_name (i := 1) scLWalk.nd rfl (Or.inl rfl)) (pgs_cons (pg_name (i := 2) scLWalk.nd rfl (Or.inl rfl)) pgs_nil))))
      (pss_cons (ps_for PassesOwn.never rfl (pi_zipS (by rfl) T.z_zip (pa_cons (pe_c T.lPath (ok_lpath T) (hr.mono (by decide)) (pa_cons (pv 0) pa_nil)) (pa_cons (pv 0) pa_nil))) (pg_tup rfl (pgs_cons (pg_name (i := 3) scLWalk.nd rfl (Or.inl rfl)) (pgs_cons (pg_name (i := 4) scLWalk.nd rfl (Or.inl rfl)) pgs_nil)))
      (pss_cons (ps_set (i := 1) scLWalk.nd rfl (Or.inl rfl) (pe_op op_add (pv 1) (pe_ifExp (pt_cmpR op_in_seq (pv 2) (pe_tup (pa_cons pe_str (pa_cons (pv 4) pa_nil))) (by rfl)) pe_int (pe_op op_add (pe_callB (cr_sumT rfl) (by rfl) T.z_sum boot_sum (pa_cons (pv 3) pa_nil)) pe_int))))
      (pss_one (ps_set (i := 2) scLWalk.nd rfl (Or.inl rfl) (pv 4)))))
      (pss_one (ps_ret (pv 1))))), ?_⟩
    refine ⟨by show 2 ≤ sizeLine; decide, fun pt nt => ⟨pt, _, rfl, SqT.of upd_same, rfl, _, _, rfl, _, _, rfl, rfl, ?_⟩⟩
    have s2 : Same H (upd H pt (.tup [.int 0, .str ""])) := Same.new nt
    generalize upd H pt (.tup [.int 0, .str ""]) = H2 at s2 ⊢
    refine ⟨.str (wordS ww), rfl, ww, rfl, by omega, fun H3 l s3 us => ?_⟩
    obtain ⟨cs, hl, hcs⟩ := us
    have ecs : (cs.map V.ref).length = ww.length + 1 := by rw [List.length_map, hcs.length, wayTo_len]
    refine ⟨.str (wordS ww), rfl, l, cs.map V.ref, wordS ww, rfl, SqL.of hl, for_it (walk_zipS (xs := cs.map V.ref) (by rw [wordS_size, ecs]; omega))
      (fun i σ H' => ∃ y4 y5, σ = [some (.str (wordS ww)), some (.int (walk (ww.take i))), some (.str (sdS (lastd none (ww.take i)))), y4, y5] ∧ Same H3 H') ⟨none, none, rfl, Same.refl H3⟩ (fun i σ H' _ h => ?_) (fun i x σ H4 H5 hi h y => ?_) (fun σ H' h => ?_)⟩
    · obtain ⟨_, _, _, sm⟩ := h
      exact SqL.of (sm _ _ hl)
    · obtain ⟨y4, y5, rfl, sm⟩ := h
      obtain ⟨t, x1, c, rfl, nt, rfl, e1, e2⟩ := y
      obtain ⟨g, hg, eg⟩ := word_sign e2
      rw [eg]
      rw [wordS_size] at hi
      obtain ⟨c0, f1, f2⟩ := paired_get' hcs (wayTo_get ww ww.length i (by omega))
      obtain rfl : x1 = .ref c0 := by
        rw [List.getElem?_map, f1] at e1
        exact (Option.some.inj e1).symm
      have sm2 := sm.trans (Same.new (o := .tup [.ref c0, .str (sgS g)]) nt)
      have ht : (upd H4 t (.tup [.ref c0, .str (sgS g)])) t = some (.tup [.ref c0, .str (sgS g)]) := upd_same
      generalize upd H4 t (.tup [.ref c0, .str (sgS g)]) = H6 at sm2 ht ⊢
      refine ⟨t, _, rfl, SqT.of ht, rfl, _, _, rfl, _, _, rfl, rfl, ?_⟩
      refine ⟨.int (walk (ww.take i)), rfl, .str (sdS (lastd none (ww.take i))), rfl, .str (sgS g), rfl, by show 2 ≤ sizeLine; decide, fun p1 n1 => ?_⟩
      have s7 : Same H6 (upd H6 p1 (.tup [.str "", .str (sgS g)])) := Same.new n1
      refine ⟨p1, _, rfl, .inr (SqT.of upd_same), rfl, rfl, _, rfl, ?_⟩
      rw [show (if false = true then !inV (V.str (sdS (lastd none (ww.take i)))) [V.str "", V.str (sgS g)] else inV (V.str (sdS (lastd none (ww.take i)))) [V.str "", V.str (sgS g)]) = decide (lastd none (ww.take i) = none ∨ lastd none (ww.take i) = some g) from (if_neg Bool.false_ne_true).trans (side_in _ g)]
      have ew : walk (ww.take (i + 1)) = walk (ww.take i) + cost (pathEnd (0, 0) (ww.take i)) (lastd none (ww.take i)) g := by
        rw [take_succ_of hg]
        unfold walk
        rw [walkF_snoc]
      have el : lastd none (ww.take (i + 1)) = some g := by rw [take_succ_of hg, lastd_snoc]
      rw [ew, el]
      unfold cost
      by_cases h : lastd none (ww.take i) = none ∨ lastd none (ww.take i) = some g
      · rw [if_pos h, decide_eq_true h]
        exact iteT ⟨_, _, rfl, rfl, .str (sgS g), rfl, _, _, rfl, sm2.trans s7⟩
      · rw [if_neg h, decide_eq_false h]
        have f3 : At2 (upd H6 p1 (.tup [.str "", .str (sgS g)])) c0 (pathEnd (0, 0) (ww.take i)) := f2.same (sm2.trans s7)
        refine iteF ⟨.ref c0, rfl, c0, [((pathEnd (0, 0) (ww.take i)).1 : Int), ((pathEnd (0, 0) (ww.take i)).2 : Int)], rfl, SqT.of f3, ([((pathEnd (0, 0) (ww.take i)).1 : Int), ((pathEnd (0, 0) (ww.take i)).2 : Int)] : List Int).sum, 1, rfl, rfl, walk (ww.take i), _, rfl, rfl, .str (sgS g), rfl, some (.ref c0), some (.str (sgS g)), ?_, sm2.trans s7⟩
        have e : ([((pathEnd (0, 0) (ww.take i)).1 : Int), ((pathEnd (0, 0) (ww.take i)).2 : Int)] : List Int).sum + 1 = ((pathEnd (0, 0) (ww.take i)).1 : Int) + ((pathEnd (0, 0) (ww.take i)).2 : Int) + 1 := by
          simp [List.sum_cons]
        rw [← e]
        rfl
    · obtain ⟨y4, y5, rfl, sm⟩ := h
      rw [wordS_size, List.take_of_length_le (Nat.le_refl _)]
      exact ⟨_, rfl, q H' ((s2.trans s3).trans sm)⟩
end
end KX
end L2
namespace L2
namespace KX
open PySem PySem.W PySem.Spec PyProof.Rows
open KL
/-! ### how many plays there are at most -/
def binT : List (List Int) := [[1, 1, 1, 1, 1], [1, 2, 3, 4, 5], [1, 3, 6, 10, 15], [1, 4, 10, 20, 35], [1, 5, 15, 35, 70]]
def bin (x y : Nat) : Int := (binT.getD x []).getD y 0
theorem bin_facts : ∀ x : Fin 5, ∀ y : Fin 5, 0 ≤ bin x.val y.val ∧ bin x.val y.val ≤ 70 ∧ 1 ≤ bin x.val y.val ∧ (if x.val = 0 then 0 else bin (x.val - 1) y.val) + (if y.val = 0 then 0 else bin x.val (y.val - 1)) ≤ bin x.val y.val + (if x.val = 0 ∧ y.val = 0 then 1 else 0) := by decide
def ck (u : Spn) : List Key := [.inl (u.1 : Int), .inl (u.2 : Int)]
structure CB (us : List Spn) (kvs : List (List Key × V)) : Prop where
  has : ∀ u ∈ us, ∃ n, valV kvs (ck u) = some (.int n)
  bnd : ∀ k v, valV kvs k = some v → ∃ u n, k = ck u ∧ v = .int n ∧ 0 ≤ n ∧ n ≤ bin u.1 u.2
theorem CB.get {us : List Spn} {kvs : List (List Key × V)} (h : CB us kvs) (i j : Int) : ∃ n : Int, (valV kvs [.inl i, .inl j]).getD (.int 0) = .int n ∧ 0 ≤ n ∧ (n = 0 ∨ ∃ u : Spn, i = (u.1 : Int) ∧ j = (u.2 : Int) ∧ n ≤ bin u.1 u.2) := by
  cases hv : valV kvs [.inl i, .inl j] with
  | none => exact ⟨0, rfl, by omega, .inl rfl⟩
  | some v =>
    obtain ⟨u, n, h1, h2, h3, h4⟩ := h.bnd _ _ hv
    subst h2
    unfold ck at h1
    injection h1 with e1 h1
    injection h1 with e2 _
    exact ⟨n, rfl, h3, .inr ⟨u, Sum.inl.inj e1, Sum.inl.inj e2, h4⟩⟩
theorem CB.put {us : List Spn} {kvs : List (List Key × V)} (h : CB us kvs) {u : Spn} {n : Int} (h0 : 0 ≤ n) (h1 : n ≤ bin u.1 u.2) : CB (us ++ [u]) (putK kvs (ck u) (.int n)) where
  has := fun v hv => by
    rw [valV_put]
    by_cases e : ck v = ck u
    · exact ⟨n, by rw [if_pos e]⟩
    · rw [if_neg e]
      rcases List.mem_append.mp hv with hv | hv
      · exact h.has v hv
      · rw [List.mem_singleton.mp hv] at e
        exact absurd rfl e
  bnd := fun k v hk => by
    rw [valV_put] at hk
    by_cases e : k = ck u
    · rw [if_pos e] at hk
      cases hk
      exact ⟨u, n, e, rfl, h0, h1⟩
    · rw [if_neg e] at hk
      exact h.bnd k v hk
theorem eqv2 (i j i' j' : Int) : PyData.eqv (.tuple [.int i, .int j]) (.tuple [.int i', .int j']) = decide (i = i' ∧ j = j') := by
  by_cases h1 : i = i' <;> by_cases h2 : j = j' <;> simp [PyData.eqv, PyData.eqvAll, h1, h2]
theorem Sd.tup' {d : Addr} {H H' : Hp} {o : HO} (k : Sd d H H') (hd : H d = some o) (ho : ∀ xs, o ≠ .tup xs) {b : Addr} {xs : List V} (h : H b = some (.tup xs)) : H' b = some (.tup xs) := k b _ (fun e => by rw [e, hd] at h; exact ho xs (Option.some.inj h)) h
section
variable {P : Program} {w : World} {K : PySem.W.Frag} {mg : Str → Option Value} {base : Heap}
def spCount : Sp := fun vs H Q _ => ∃ (a : Addr) (r : Rg), vs = [.ref a] ∧ RgAt H a r ∧ Reg r ∧ ∀ H' n, Same H H' → n ≤ 70 → Q (.int n) H'
theorem ok_lcount (T : Txt K mg) : FnOk P w K mg base CX0 2 T.lCount.f T.lCount.fd ["_law_shape"] spCount := by
  refine T.lCount.F.ok scLCount (fun vs H Q E h => ?_) (fun cdv A outer s H vs Q E hr h => ?_)
  · obtain ⟨a, r, rfl, _⟩ := h
    rfl
  · obtain ⟨a, r, rfl, hA, hR, q⟩ := h
    have hu : (A.deeper (envOfC (Str.ofString "_law_count") (defScope sLCount) s.heap.objs.size T.lCount.f cdv)).units + 64 < cLine := hr.units
    refine ⟨_, (pss_cons (ps_set (i := 1) scLCount.nd rfl (Or.inl rfl) pe_dnewT)
      (pss_cons (ps_for PassesOwn.never rfl (pi_list (pe_c T.lSpans (ok_lspans T) (hr.mono (by decide)) (pa_cons (pv 0) pa_nil))) (pg_tup rfl (pgs_cons (pg_name (i := 2) scLCount.nd rfl (Or.inl rfl)) (pgs_cons (pg_name (i := 3) scLCount.nd rfl (Or.inl rfl)) pgs_nil)))
      (pss_one (ps_dput (hu_of hr) (pv 1) (pe_tup (pa_cons (pv 2) (pa_cons (pv 3) pa_nil))) (pe_ifExp (pt_cmpR (op_eqD hu) (pe_tup (pa_cons (pv 2) (pa_cons (pv 3) pa_nil))) (pe_tup (pa_cons pe_int (pa_cons pe_int pa_nil))) (nomark _)) pe_int (pe_op op_add (pe_dget2 (hu_of hr) (pv 1) (pe_tup (pa_cons (pe_op op_sub (pv 2) pe_int) (pa_cons (pv 3) pa_nil))) pe_int ⟨by rfl, by rfl, by rfl, by rfl⟩) (pe_dget2 (hu_of hr) (pv 1) (pe_tup (pa_cons (pv 2) (pa_cons (pe_op op_sub (pv 3) pe_int) pa_nil))) pe_int ⟨by rfl, by rfl, by rfl, by rfl⟩))) rfl)))
      (pss_one (ps_ret (pe_dget (hu_of hr) (pv 1) (pe_tup (pa_cons (pe_op op_sub (pe_callB call_len_seq (by rfl) T.z_len PySem.boot_len (pa_cons (pv 0) pa_nil)) pe_int) (pa_cons (pe_ix ix_tup (pe_ix ix_tup (pv 0) (pe_un un_neg pe_int) (fun _ _ => rfl)) pe_int (fun _ _ => rfl)) pa_nil))) (fun _ _ => rfl)))))), ?_⟩
    intro d nd
    have s0 : Same H (upd H d (.dT [])) := Same.new nd
    have hd0 : (upd H d (.dT [])) d = some (.dT []) := upd_same
    generalize upd H d (.dT []) = H0 at s0 hd0 ⊢
    refine ⟨.ref a, rfl, a, r, rfl, hA.same s0, hR, fun H1 l s1 us => ?_⟩
    obtain ⟨cs, hl, hcs⟩ := us
    have hd1 := s1 _ _ hd0
    have ecs : (cs.map V.ref).length = (spans r).length := by rw [List.length_map, hcs.length]
    have nld : l ≠ d := ne_of hl hd1 fun z => nomatch z
    have sz := spans_len hR
    refine ⟨l, rfl, ⟨_, SqL.of hl⟩, for_it (walk_list (xs := cs.map V.ref)) (fun i σ H' => ∃ y2 y3 kvs, σ = [some (.ref a), some (.ref d), y2, y3] ∧ Sd d H1 H' ∧ H' d = some (.dT kvs) ∧ kvs.length ≤ i ∧ CB ((spans r).take i) kvs)
      ⟨none, none, [], rfl, Sd.refl d H1, hd1, Nat.le_refl _, fun u hu => (by cases hu), fun k v hv => (by cases hv)⟩ (fun i σ H' _ h => ?_) (fun i x σ H2 H3 hi h y => ?_) (fun σ H' h => ?_)⟩
    · obtain ⟨_, _, _, _, sd, _⟩ := h
      exact SqL.of (sd _ _ nld hl)
    · obtain ⟨y2, y3, kvs, rfl, sd, hd, hkl, cb⟩ := h
      obtain ⟨rfl, hx⟩ := y
      rw [ecs] at hi
      obtain ⟨pu, hpu, hu2⟩ := paired_get' hcs (List.getElem?_eq_getElem hi)
      obtain rfl : x = .ref pu := by
        rw [List.getElem?_map, hpu] at hx
        exact (Option.some.inj hx).symm
      have hou : opn r (spans r)[i] = true := mem_spans.mp (List.getElem_mem hi)
      have et : (spans r).take (i + 1) = (spans r).take i ++ [(spans r)[i]] := by
        rw [List.take_add_one, List.getElem?_eq_getElem hi]
        rfl
      rw [et]
      generalize (spans r)[i] = u at hu2 hou ⊢
      generalize (spans r).take i = us at cb ⊢
      have hu3 : At2 H3 pu u := sd.tup' hd1 (fun _ z => nomatch z) hu2
      have hl4 := le_fin hR hou
      have hf4 := fin_le hR
      obtain ⟨x, y⟩ := u
      have hx4 : x ≤ 4 := by have : x ≤ (fin r).1 := hl4.1; omega
      have hy4 : y ≤ 4 := by have : y ≤ (fin r).2 := hl4.2; omega
      have hb := bin_facts ⟨x, by omega⟩ ⟨y, by omega⟩
      have hb : 0 ≤ bin x y ∧ bin x y ≤ 70 ∧ 1 ≤ bin x y ∧ (if x = 0 then 0 else bin (x - 1) y) + (if y = 0 then 0 else bin x (y - 1)) ≤ bin x y + (if x = 0 ∧ y = 0 then 1 else 0) := hb
      refine ⟨pu, _, rfl, SqT.of hu3, rfl, _, _, rfl, _, _, rfl, rfl, ?_⟩
      -- the new number is stored
      have fin : ∀ (n : Int) (H4 : Hp), Same H3 H4 → 0 ≤ n → n ≤ bin x y →
          (tVar 1 ([some (.ref a), some (.ref d), some (.int (x : Nat)), some (.int (y : Nat))] : St) H4 fun x_1 H2 => tTup (tCons (tVar 2) (tCons (tVar 3) tNil)) ([some (.ref a), some (.ref d), some (.int (x : Nat)), some (.int (y : Nat))] : St) H2 fun y_1 H3 => ∃ a_1 H4, x_1 = .ref a_1 ∧ DPut H3 a_1 y_1 (.int n) H4 ∧
            ∃ y2 y3 kvs, ([some (.ref a), some (.ref d), some (.int (x : Nat)), some (.int (y : Nat))] : List (Option V)) = [some (.ref a), some (.ref d), y2, y3] ∧ Sd d H1 H4 ∧ H4 d = some (.dT kvs) ∧ kvs.length ≤ i + 1 ∧ CB (us ++ [(x, y)]) kvs) := by
        intro n H4 s4 h0 h1
        refine ⟨.ref d, rfl, .int (x : Nat), rfl, .int (y : Nat), rfl, by show 2 ≤ sizeLine; decide, fun p np => ?_⟩
        have s5 : Same H4 (upd H4 p (.tup [.int (x : Nat), .int (y : Nat)])) := Same.new np
        have hd5 := s5 _ _ (s4 _ _ hd)
        refine ⟨d, _, rfl, DPut.t (k := ck (x, y)) hd5 upd_same (sz_lt (by omega)), some (.int (x : Nat)), some (.int (y : Nat)), _, rfl, (sd.trans (Sd.of (s4.trans s5))).trans Sd.upd, upd_same, ?_, cb.put h0 h1⟩
        have := length_putK kvs (ck (x, y)) (.int n)
        omega
      refine ⟨.int (x : Nat), rfl, .int (y : Nat), rfl, by show 2 ≤ sizeLine; decide, fun p1 n1 => ⟨by show 2 ≤ sizeLine; decide, fun p2 n2 => ?_⟩⟩
      have s1' : Same H3 (upd H3 p1 (.tup [.int (x : Nat), .int (y : Nat)])) := Same.new n1
      have hp1 : At2 (upd H3 p1 (.tup [.int (x : Nat), .int (y : Nat)])) p1 (x, y) := upd_same
      generalize upd H3 p1 (.tup [.int (x : Nat), .int (y : Nat)]) = H4 at s1' hp1 n2 ⊢
      have s2' : Same H4 (upd H4 p2 (.tup [.int 0, .int 0])) := Same.new n2
      have hp2 : At2 (upd H4 p2 (.tup [.int 0, .int 0])) p2 (0, 0) := upd_same
      generalize upd H4 p2 (.tup [.int 0, .int 0]) = H5 at s2' hp2 ⊢
      refine ⟨_, _, dp2 (hp1.same s2'), dp2 hp2, shaped2 _ _, shaped2 _ _, _, rfl, ?_⟩
      rw [eqv2]
      by_cases e0 : x = 0 ∧ y = 0
      · rw [decide_eq_true (show (((x, y) : Spn).1 : Int) = (((0, 0) : Spn).1 : Int) ∧ (((x, y) : Spn).2 : Int) = (((0, 0) : Spn).2 : Int) from ⟨by have := e0.1; show (x : Int) = 0; omega, by have := e0.2; show (y : Int) = 0; omega⟩)]
        refine iteT ?_
        exact fin 1 H5 (s1'.trans s2') (by omega) hb.2.2.1
      · rw [decide_eq_false (show ¬ ((((x, y) : Spn).1 : Int) = (((0, 0) : Spn).1 : Int) ∧ (((x, y) : Spn).2 : Int) = (((0, 0) : Spn).2 : Int)) from fun z => e0 ⟨by have : (x : Int) = 0 := z.1; omega, by have : (y : Int) = 0 := z.2; omega⟩)]
        refine iteF ?_
        have s5 := s1'.trans s2'
        have hd5 := s5 _ _ hd
        refine ⟨.ref d, rfl, d, rfl, .inr ⟨kvs, .inl hd5⟩, .int (x : Nat), rfl, (x : Nat), 1, rfl, rfl, .int (y : Nat), rfl, by show 2 ≤ sizeLine; decide, fun p3 n3 => ?_⟩
        have s6 : Same H5 (upd H5 p3 (.tup [.int ((x : Nat) - 1), .int (y : Nat)])) := Same.new n3
        have hp3 : (upd H5 p3 (.tup [.int ((x : Nat) - 1), .int (y : Nat)])) p3 = some (.tup (([.inl ((x : Nat) - 1), .inl (y : Nat)] : List Key).map kV)) := upd_same
        generalize upd H5 p3 (.tup [.int ((x : Nat) - 1), .int (y : Nat)]) = H6 at s6 hp3 ⊢
        have hd6 := s6 _ _ hd5
        obtain ⟨na, ea, a0, a1⟩ := cb.get ((x : Nat) - 1) (y : Nat)
        obtain ⟨nb, eb, b0, b1⟩ := cb.get (x : Nat) ((y : Nat) - 1)
        refine ⟨_, DGet.t hd6 hp3, ?_⟩
        rw [ea]
        refine ⟨.ref d, rfl, d, rfl, .inr ⟨kvs, .inl hd6⟩, .int (x : Nat), rfl, .int (y : Nat), rfl, (y : Nat), 1, rfl, rfl, by show 2 ≤ sizeLine; decide, fun p4 n4 => ?_⟩
        have s7 : Same H6 (upd H6 p4 (.tup [.int (x : Nat), .int ((y : Nat) - 1)])) := Same.new n4
        have hp4 : (upd H6 p4 (.tup [.int (x : Nat), .int ((y : Nat) - 1)])) p4 = some (.tup (([.inl (x : Nat), .inl ((y : Nat) - 1)] : List Key).map kV)) := upd_same
        generalize upd H6 p4 (.tup [.int (x : Nat), .int ((y : Nat) - 1)]) = H7 at s7 hp4 ⊢
        refine ⟨_, DGet.t (s7 _ _ hd6) hp4, ?_⟩
        rw [eb]
        refine ⟨na, nb, rfl, rfl, ?_⟩
        refine fin (na + nb) H7 ((s5.trans s6).trans s7) (by omega) ?_
        have ca : na ≤ if x = 0 then 0 else bin (x - 1) y := by
          rcases a1 with z | ⟨u, e1, e2, e3⟩
          · split
            · omega
            · have hb2 := bin_facts ⟨x - 1, by omega⟩ ⟨y, by omega⟩
              have : 0 ≤ bin (x - 1) y := hb2.1
              omega
          · have : x ≠ 0 := by omega
            rw [if_neg this]
            rw [show u.1 = x - 1 by omega, show u.2 = y by omega] at e3
            exact e3
        have cb' : nb ≤ if y = 0 then 0 else bin x (y - 1) := by
          rcases b1 with z | ⟨u, e1, e2, e3⟩
          · split
            · omega
            · have hb2 := bin_facts ⟨x, by omega⟩ ⟨y - 1, by omega⟩
              have : 0 ≤ bin x (y - 1) := hb2.1
              omega
          · have : y ≠ 0 := by omega
            rw [if_neg this]
            rw [show u.1 = x by omega, show u.2 = y - 1 by omega] at e3
            exact e3
        have h4 := hb.2.2.2
        rw [if_neg e0] at h4
        omega
    · obtain ⟨y2, y3, kvs, rfl, sd, hd, hkl, cb⟩ := h
      rw [ecs, List.take_of_length_le (Nat.le_refl _)] at cb
      have sH : Same H H' := Sd.same (s0.trans s1) nd sd
      obtain ⟨cr, h1, h2, h3⟩ := (hA.same sH).col
      have hlp := hR.pos
      obtain ⟨c, e3, e4⟩ := h3 (r.length - 1) (by omega)
      refine ⟨.ref d, rfl, .ref a, rfl, a, _, rfl, .inr (SqT.of h1), (((cr.map V.ref).length : Nat) : Int), 1, rfl, rfl, .ref a, rfl, 1, rfl, a, _, -1, .ref c, rfl, rfl, SqT.of h1, at_last (n := r.length - 1) (by rw [h2]; omega) e3, c, _, 1, _, rfl, rfl, SqT.of e4, rfl, by show 2 ≤ sizeLine; decide, fun p hp => ?_⟩
      have e : (((cr.map V.ref).length : Nat) : Int) - 1 = ((r.length - 1 : Nat) : Int) := by rw [h2]; omega
      show ∃ a_1 v, V.ref d = V.ref a_1 ∧ DGet (upd H' p (.tup [.int ((((cr.map V.ref).length : Nat) : Int) - 1), .int (chi r (r.length - 1) : Int)])) a_1 (.ref p) (some v) ∧ Q v (upd H' p (.tup [.int ((((cr.map V.ref).length : Nat) : Int) - 1), .int (chi r (r.length - 1) : Int)]))
      rw [e]
      have s5 : Same H' (upd H' p (.tup [.int ((r.length - 1 : Nat) : Int), .int (chi r (r.length - 1) : Int)])) := Same.new hp
      obtain ⟨n, hn⟩ := cb.has (KL.fin r) (mem_spans.mpr (opn_fin hR))
      refine ⟨d, .int n, rfl, ?_, ?_⟩
      · have g := DGet.t (k := ck (KL.fin r)) (s5 _ _ hd) (b := p) upd_same
        rw [hn] at g
        exact g
      · obtain ⟨u, n', e1, e2, e5, e6⟩ := cb.bnd _ _ hn
        cases e2
        refine q _ n (sH.trans s5) ?_
        have hf4 := fin_le hR
        have eu : u = KL.fin r := by
          unfold ck at e1
          injection e1 with f1 e1
          injection e1 with f2 _
          have f1 := Sum.inl.inj f1
          have f2 := Sum.inl.inj f2
          exact Prod.ext (by omega) (by omega)
        subst eu
        have hb := bin_facts ⟨(KL.fin r).1, by omega⟩ ⟨(KL.fin r).2, by omega⟩
        have := hb.2.1
        exact Int.le_trans e6 this
end
end KX
end L2
namespace L2
namespace KX
open PySem PySem.W PySem.Spec PyProof.Rows
open KL
/-! ### the drawn region -/
structure PRg (r : Rg) (w t : Int) : Prop where
  w0 : 0 ≤ w
  wt : w ≤ t
  t4 : t ≤ 4
  nil : r = [] → w = 0
  first : 0 < r.length → clo r 0 = 0
  col : ∀ x, x < r.length → clo r x ≤ chi r x ∧ chi r x ≤ 4
  step : ∀ x, x + 1 < r.length → clo r x ≤ clo r (x + 1) ∧ clo r (x + 1) ≤ chi r x ∧ chi r x ≤ chi r (x + 1)
  last : ∀ x, x + 1 = r.length → (clo r x : Int) = w ∧ (chi r x : Int) = t
theorem clo_old {r : Rg} {u : Nat × Nat} {x : Nat} (h : x < r.length) : clo (r ++ [u]) x = clo r x ∧ chi (r ++ [u]) x = chi r x := by
  unfold clo chi
  rw [List.getD_eq_getElem?_getD, List.getD_eq_getElem?_getD, List.getElem?_append_left h]
  exact ⟨rfl, rfl⟩
theorem clo_new {r : Rg} {u : Nat × Nat} : clo (r ++ [u]) r.length = u.1 ∧ chi (r ++ [u]) r.length = u.2 := by
  unfold clo chi
  rw [List.getD_eq_getElem?_getD, List.getElem?_append_right (Nat.le_refl _), Nat.sub_self]
  exact ⟨rfl, rfl⟩
theorem PRg.nilR {t : Int} (h0 : 0 ≤ t) (h1 : t ≤ 4) : PRg [] 0 t where
  w0 := Int.le_refl _
  wt := h0
  t4 := h1
  nil := fun _ => rfl
  first := fun z => absurd z (by decide)
  col := fun x z => absurd z (Nat.not_lt_zero _)
  step := fun x z => absurd z (Nat.not_lt_zero _)
  last := fun x z => by cases z
theorem PRg.snoc {r : Rg} {w t w' t' : Int} (h : PRg r w t) (h1 : w ≤ w') (h2 : w' ≤ t) (h3 : t ≤ t') (h4 : t' ≤ 4) (h5 : r = [] → w' = 0) : PRg (r ++ [(w'.toNat, t'.toNat)]) w' t' where
  w0 := by have := h.w0; omega
  wt := by omega
  t4 := h4
  nil := fun z => by simp at z
  first := fun _ => by
    cases r with
    | nil =>
      have e : clo ([] ++ [(w'.toNat, t'.toNat)]) 0 = w'.toNat := rfl
      rw [e, h5 rfl]
      rfl
    | cons c r =>
      rw [(clo_old (r := c :: r) (u := (w'.toNat, t'.toNat)) (x := 0) (by simp)).1]
      exact h.first (by simp)
  col := fun x hx => by
    rw [List.length_append, List.length_singleton] at hx
    by_cases e : x = r.length
    · subst e
      rw [clo_new.1, clo_new.2]
      have := h.w0
      show w'.toNat ≤ t'.toNat ∧ t'.toNat ≤ 4
      omega
    · have hx : x < r.length := by omega
      rw [(clo_old hx).1, (clo_old hx).2]
      exact h.col x hx
  step := fun x hx => by
    rw [List.length_append, List.length_singleton] at hx
    have hx0 : x < r.length := by omega
    rw [(clo_old hx0).1, (clo_old hx0).2]
    by_cases e : x + 1 = r.length
    · rw [e, clo_new.1, clo_new.2]
      obtain ⟨l1, l2⟩ := h.last x e
      have := h.w0
      show clo r x ≤ w'.toNat ∧ w'.toNat ≤ chi r x ∧ chi r x ≤ t'.toNat
      omega
    · have hx1 : x + 1 < r.length := by omega
      rw [(clo_old hx1).1, (clo_old hx1).2]
      exact h.step x hx1
  last := fun x hx => by
    rw [List.length_append, List.length_singleton] at hx
    have e : x = r.length := by omega
    subst e
    rw [clo_new.1, clo_new.2]
    have := h.w0
    show ((w'.toNat : Nat) : Int) = w' ∧ ((t'.toNat : Nat) : Int) = t'
    omega
theorem PRg.reg {r : Rg} {w t : Int} (h : PRg r w t) (h0 : 0 < r.length) (h1 : r.length ≤ 5) : Reg r := ⟨h0, h1, h.first h0, h.col, h.step⟩
theorem sd_mut {d l : Addr} {H H' : Hp} {o : HO} (k : Sd d H H') (hl : H l = none) : Sd d H (upd H' l o) := fun b x n h => by
  rw [upd_ne (ne_of_none h hl)]
  exact k b x n h
/-- the state of the draw: the row, the columns so far -/
structure Drw (K : PySem.W.Frag) (H H' : Hp) (a sc : Addr) (ns : List Int) (l : Addr) (r : Rg) : Prop where
  sd : Sd a H H'
  row : ∃ i sd rs, RowAt K H' a sc ns i sd rs
  lst : SpAt H' l r
  nw : H l = none
theorem Drw.moved {K : PySem.W.Frag} {H H1 H2 : Hp} {a sc : Addr} {ns : List Int} {l : Addr} {r : Rg} (h : Drw K H H1 a sc ns l r) (m : RowTo K H1 H2 a sc ns) (hla : l ≠ a) : Drw K H H2 a sc ns l r := by
  obtain ⟨m1, m2⟩ := m
  obtain ⟨i, sd, rs, hr⟩ := h.row
  obtain ⟨cs, h1, h2⟩ := h.lst
  exact ⟨h.sd.trans m1, m2, ⟨cs, m1 _ _ hla h1, Paired.mapP h2 fun c u z => m1 _ _ (ne_of z hr.at_ fun q => nomatch q) z⟩, h.nw⟩
section
variable {P : Program} {w : World} {K : PySem.W.Frag} {mg : Str → Option Value} {base : Heap}
def spRegion (K : PySem.W.Frag) : Sp := fun vs H Q _ => ∃ (a sc : Addr) (ns : List Int) (i sd rs : Int), vs = [.ref a, .int 4, .int 4] ∧ RowAt K H a sc ns i sd rs ∧ ∀ H' p r, RowTo K H H' a sc ns → RgAt H' p r → Reg r → Q (.ref p) H'
theorem ok_lregion (T : Txt K mg) : FnOk P w K mg base CX0 2 T.lRegion.f T.lRegion.fd ["_law_row", "_law_wide", "_law_high"] (spRegion K) := by
  refine T.lRegion.F.ok scLRegion (fun vs H Q E h => ?_) (fun cdv A outer s H vs Q E hr h => ?_)
  · obtain ⟨a, sc, ns, i, sd, rs, rfl, _⟩ := h
    rfl
  · obtain ⟨a, sc, ns, i, sd, rs, rfl, hR, q⟩ := h
    refine ⟨_, (pss_cons (ps_par3 (i := 3) (j := 4) (l := 5) rfl scLRegion.nd rfl rfl rfl (by decide) (by decide) (by decide) rfl rfl rfl (pa_cons (pe_lst pa_nil) (pa_cons pe_int (pa_cons (pe_c T.lTaken (ok_taken T) (hr.mono (by decide)) (pa_cons (pv 0) (pa_cons (pe_op op_add (pv 2) pe_int) pa_nil))) pa_nil))) (by rfl))
      (pss_cons (ps_set (i := 6) scLRegion.nd rfl (Or.inl rfl) (pe_c T.lTaken (ok_taken T) (hr.mono (by decide)) (pa_cons (pv 0) (pa_cons pe_int pa_nil))))
      (pss_cons (ps_for PassesOwn.never rfl (pi_range1 (by rfl) T.z_range (pa_cons (pe_op op_add pe_int (pe_c T.lTaken (ok_taken T) (hr.mono (by decide)) (pa_cons (pv 0) (pa_cons (pe_op op_add (pv 1) pe_int) pa_nil)))) pa_nil)) (pg_name (i := 7) scLRegion.nd rfl (Or.inl rfl))
      (pss_cons (ps_if (pt_cmpR op_gt (pv 7) pe_int (nomark _)) (pss_cons (ps_set (i := 4) scLRegion.nd rfl (Or.inl rfl) (pe_ifExp (pt_cmpR op_gt (pv 6) pe_int (nomark _)) (pe_op op_add (pv 4) (pe_c T.lTaken (ok_taken T) (hr.mono (by decide)) (pa_cons (pv 0) (pa_cons (pe_op op_add (pe_op op_sub (pv 5) (pv 4)) pe_int) pa_nil)))) (pv 4)))
      (pss_one (ps_set (i := 5) scLRegion.nd rfl (Or.inl rfl) (pe_ifExp (pt_cmpR op_ne (pv 6) pe_int (nomark _)) (pe_op op_add (pv 5) (pe_c T.lTaken (ok_taken T) (hr.mono (by decide)) (pa_cons (pv 0) (pa_cons (pe_op op_add (pe_op op_sub (pv 2) (pv 5)) pe_int) pa_nil)))) (pe_callB (call_min2 rfl) (by rfl) T.z_min boot_min (pa_cons (pv 2) (pa_cons (pe_op op_add (pv 5) pe_int) pa_nil))))))) pss_nil)
      (pss_one (ps_expr (pe_bm PySem.F.plainAttrs_list PySem.F.slot_list_append PySem.F.type_list_append mt_append (pv 3) (pa_cons (pe_tup (pa_cons (pv 4) (pa_cons (pv 5) pa_nil))) pa_nil))))))
      (pss_one (ps_ret (pe_callTy call_tuple_of (by rfl) T.z_tuple boot_tuple (pa_cons (pv 3) pa_nil))))))), ?_⟩
    refine ⟨by show 0 ≤ sizeLine; decide, fun l nl => ?_⟩
    have s0 : Same H (upd H l (.lst [])) := Same.new nl
    have hla : l ≠ a := fun e => by rw [e, hR.at_] at nl; cases nl
    have d0 : Drw K H (upd H l (.lst [])) a sc ns l [] := ⟨Sd.of s0, ⟨i, sd, rs, s0 _ _ hR.at_, hR.scr.same s0, hR.i0, hR.s0, hR.s1⟩, ⟨[], upd_same, .nil⟩, nl⟩
    generalize upd H l (.lst []) = H0 at d0 ⊢
    obtain ⟨i1, sd1, rs1, hR1⟩ := d0.row
    refine ⟨.ref a, rfl, .int 4, rfl, 4, 1, rfl, rfl, a, sc, ns, i1, sd1, rs1, 4 + 1, rfl, hR1, by decide, by decide, fun H1 t m1 t0 t1 => ?_⟩
    have d1 := d0.moved m1 hla
    clear d0 m1 hR1
    obtain ⟨i1, sd1, rs1, hR1⟩ := d1.row
    refine ⟨_, _, _, rfl, ?_⟩
    refine ⟨.ref a, rfl, a, sc, ns, i1, sd1, rs1, 4, rfl, hR1, by decide, by decide, fun H2 kd m2 k0 k1 => ?_⟩
    have d2 := d1.moved m2 hla
    clear d1 m2 hR1
    obtain ⟨i1, sd1, rs1, hR1⟩ := d2.row
    refine ⟨.ref a, rfl, .int 4, rfl, 4, 1, rfl, rfl, a, sc, ns, i1, sd1, rs1, 4 + 1, rfl, hR1, by decide, by decide, fun H3 n m3 n0 n1 => ?_⟩
    have d3 := d2.moved m3 hla
    clear d2 m3 hR1
    refine ⟨1, n, rfl, rfl, 1 + n, rfl, by omega, by omega, for_range (n := (1 + n).toNat) (fun i σ H' => ∃ (cols : Rg) (lw tp : Int) (y7 : Option V), σ = [some (.ref a), some (.int 4), some (.int 4), some (.ref l), some (.int lw), some (.int tp), some (.int kd), y7] ∧ Drw K H H' a sc ns l cols ∧ cols.length = i ∧ PRg cols lw tp) ⟨[], 0, t, none, rfl, d3, rfl, PRg.nilR t0 (by omega)⟩ (fun i σ H' hi h => ?_) (fun σ H' h => ?_)⟩
    · obtain ⟨cols, lw, tp, y7, rfl, d, hlen, pr⟩ := h
      have hi5 : i ≤ 4 := by omega
      have NX : ∃ X : St → Hp → Prop, X = fun σ H' => ∃ (cols : Rg) (lw tp : Int) (y7 : Option V), σ = [some (.ref a), some (.int 4), some (.int 4), some (.ref l), some (.int lw), some (.int tp), some (.int kd), y7] ∧ Drw K H H' a sc ns l cols ∧ cols.length = i + 1 ∧ PRg cols lw tp := ⟨_, rfl⟩
      obtain ⟨NX, eNX⟩ := NX
      have app : ∀ (lw' tp' : Int) (H4 : Hp), Drw K H H4 a sc ns l cols → lw ≤ lw' → lw' ≤ tp → tp ≤ tp' → tp' ≤ 4 → (cols = [] → lw' = 0) →
          tBM K "list" rAppend (tVar 3) (tCons (tTup (tCons (tVar 4) (tCons (tVar 5) tNil))) tNil) [some (.ref a), some (.int 4), some (.int 4), some (.ref l), some (.int lw'), some (.int tp'), some (.int kd), some (.int (0 + (i : Nat)))] H4 (fun _ H5 => NX [some (.ref a), some (.int 4), some (.int 4), some (.ref l), some (.int lw'), some (.int tp'), some (.int kd), some (.int (0 + (i : Nat)))] H5) := by
        intro lw' tp' H4 d4 g1 g2 g3 g4 g5
        obtain ⟨i4, sd4, rs4, hR4⟩ := d4.row
        obtain ⟨cs, h1, h2⟩ := d4.lst
        refine ⟨.ref l, rfl, .inl ⟨rfl, _, SqL.of h1⟩, .int lw', rfl, .int tp', rfl, by show 2 ≤ sizeLine; decide, fun p np => ?_⟩
        have s5 : Same H4 (upd H4 p (.tup [.int lw', .int tp'])) := Same.new np
        have hp : At2 (upd H4 p (.tup [.int lw', .int tp'])) p (lw'.toNat, tp'.toNat) := at2_new (by have := pr.w0; show lw' = ((lw'.toNat : Nat) : Int); omega) (by have := pr.w0; show tp' = ((tp'.toNat : Nat) : Int); omega)
        generalize upd H4 p (.tup [.int lw', .int tp']) = H5 at s5 hp ⊢
        refine ⟨l, cs.map V.ref, .ref p, rfl, rfl, s5 _ _ h1, ?_, ?_⟩
        · rw [List.length_map, h2.length, hlen]
          exact sz_lt (by omega)
        · rw [eNX]
          refine ⟨cols ++ [(lw'.toNat, tp'.toNat)], lw', tp', _, rfl, ⟨sd_mut (d4.sd.trans (Sd.of s5)) d4.nw, ⟨i4, sd4, rs4, ?_, (hR4.scr.same s5).sd (a := l) (s5 _ _ h1) Sd.upd, hR4.i0, hR4.s0, hR4.s1⟩, SpAt.snoc (s5 _ _ h1) (Paired.mapP h2 fun _ _ z => z.same s5) hp, d4.nw⟩, by rw [List.length_append, hlen]; rfl, pr.snoc g1 g2 g3 g4 g5⟩
          rw [upd_ne (fun e => hla e.symm)]
          exact s5 _ _ hR4.at_
      have top : ∀ (lw' : Int) (H3 : Hp), Drw K H H3 a sc ns l cols → lw ≤ lw' → lw' ≤ tp → (cols = [] → lw' = 0) →
          tIf (tTest (tOp rNe (tVar 6) (tC (V.int 1)))) (tOp (rI0 fun i j => V.int (i + j)) (tVar 5) (tCall (spTaken K) [] E0 (tCons (tVar 0) (tCons (tOp (rI0 fun i j => V.int (i + j)) (tOp (rI0 fun i j => V.int (i - j)) (tVar 2) (tVar 5)) (tC (V.int 1))) tNil)))) (tCB (fun xs H Q => ∃ i j, xs = [V.int i, V.int j] ∧ Q (V.int (if j < i then j else i)) H) (tCons (tVar 2) (tCons (tOp (rI0 fun i j => V.int (i + j)) (tVar 5) (tC (V.int 1))) tNil)))
            [some (.ref a), some (.int 4), some (.int 4), some (.ref l), some (.int lw'), some (.int tp), some (.int kd), some (.int (0 + (i : Nat)))] H3 (fun x H4 => tBM K "list" rAppend (tVar 3) (tCons (tTup (tCons (tVar 4) (tCons (tVar 5) tNil))) tNil) [some (.ref a), some (.int 4), some (.int 4), some (.ref l), some (.int lw'), some x, some (.int kd), some (.int (0 + (i : Nat)))] H4 (fun _ H5 => NX [some (.ref a), some (.int 4), some (.int 4), some (.ref l), some (.int lw'), some x, some (.int kd), some (.int (0 + (i : Nat)))] H5)) := by
        intro lw' H3 d3 g1 g2 g5
        have t4 := pr.t4
        obtain ⟨i4, sd4, rs4, hR4⟩ := d3.row
        refine ⟨.int kd, rfl, rfl, _, rfl, ite2 (fun _ => ?_) (fun _ => ?_)⟩
        · refine ⟨.int tp, rfl, .ref a, rfl, .int 4, rfl, .int tp, rfl, 4, tp, rfl, rfl, 4 - tp, 1, rfl, rfl, a, sc, ns, i4, sd4, rs4, 4 - tp + 1, rfl, hR4, by omega, by have := pr.w0; have := pr.wt; omega, fun H4 v m4 v0 v1 => ?_⟩
          exact ⟨tp, v, rfl, rfl, app lw' (tp + v) H4 (d3.moved m4 hla) g1 g2 (by omega) (by omega) g5⟩
        · refine ⟨.int 4, rfl, .int tp, rfl, tp, 1, rfl, rfl, 4, tp + 1, rfl, ?_⟩
          exact app lw' _ H3 d3 g1 g2 (by split <;> omega) (by split <;> omega) g5
      refine ⟨.int (0 + (i : Nat)), rfl, 0 + (i : Nat), 0, rfl, rfl, _, rfl, ite2 (fun e => ?_) (fun e => ?_)⟩
      · have e : (0 : Int) < 0 + (i : Nat) := of_decide_eq_true e
        have hcn : cols ≠ [] := fun z => by rw [z] at hlen; simp at hlen; omega
        refine ⟨.int kd, rfl, kd, 0, rfl, rfl, _, rfl, ite2 (fun _ => ?_) (fun _ => ?_)⟩
        · obtain ⟨i4, sd4, rs4, hR4⟩ := d.row
          have t4 := pr.t4
          have w0 := pr.w0
          have wt := pr.wt
          refine ⟨.int lw, rfl, .ref a, rfl, .int tp, rfl, .int lw, rfl, tp, lw, rfl, rfl, tp - lw, 1, rfl, rfl, a, sc, ns, i4, sd4, rs4, tp - lw + 1, rfl, hR4, by omega, by omega, fun H3 v m3 v0 v1 => ⟨lw, v, rfl, rfl, ?_⟩⟩
          have := top (lw + v) H3 (d.moved m3 hla) (by omega) (by omega) (fun z => absurd z hcn)
          subst eNX
          exact this
        · have := top lw H' d (Int.le_refl _) pr.wt pr.nil
          subst eNX
          exact ⟨.int lw, rfl, this⟩
      · have := app lw tp H' d (Int.le_refl _) pr.wt (Int.le_refl _) pr.t4 pr.nil
        subst eNX
        exact this
    · obtain ⟨cols, lw, tp, y7, rfl, d, hlen, pr⟩ := h
      obtain ⟨cs, h1, h2⟩ := d.lst
      refine ⟨.ref l, rfl, l, _, rfl, .inl ⟨SqL.of h1, fun p np => ?_⟩⟩
      obtain ⟨i4, sd4, rs4, hR4⟩ := d.row
      have s5 : Same H' (upd H' p (.tup (cs.map V.ref))) := Same.new np
      refine q _ p cols ⟨d.sd.trans (Sd.of s5), i4, sd4, rs4, s5 _ _ hR4.at_, hR4.scr.same s5, hR4.i0, hR4.s0, hR4.s1⟩ ⟨cs, upd_same, Paired.mapP h2 fun _ _ z => z.same s5⟩ (pr.reg (by omega) (by omega))
end
end KX
end L2
namespace L2
namespace KX
open PySem PySem.W PySem.Spec PyProof.Rows
open KL
section
variable {P : Program} {w : World} {K : PySem.W.Frag} {mg : Str → Option Value} {base : Heap}
def spFew (K : PySem.W.Frag) : Sp := fun vs H Q _ => ∃ (a sc : Addr) (ns : List Int) (i sd rs : Int), vs = [.ref a, .int 200] ∧ RowAt K H a sc ns i sd rs ∧ ∀ H' p r, RowTo K H H' a sc ns → RgAt H' p r → Reg r → Q (.ref p) H'
theorem ok_lfew (T : Txt K mg) : FnOk P w K mg base CX0 3 T.lFew.f T.lFew.fd ["_law_row", "_law_most"] (spFew K) := by
  refine T.lFew.F.ok scLFew (fun vs H Q E h => ?_) (fun cdv A outer s H vs Q E hr h => ?_)
  · obtain ⟨a, sc, ns, i, sd, rs, rfl, _⟩ := h
    rfl
  · obtain ⟨a, sc, ns, i, sd, rs, rfl, hR, q⟩ := h
    refine ⟨_, (pss_one (ps_while PassesOwn.never (pt_val pe_bl)
      (pss_cons (ps_set (i := 2) scLFew.nd rfl (Or.inl rfl) (pe_c T.lRegion (ok_lregion T) (hr.mono (by decide)) (pa_cons (pv 0) (pa_cons pe_int (pa_cons pe_int pa_nil)))))
      (pss_cons (ps_if (pt_cmpR op_le (pe_c T.lCount (ok_lcount T) (hr.mono (by decide)) (pa_cons (pv 2) pa_nil)) (pv 1) (nomark _)) (pss_one (ps_ret (pv 2))) pss_nil)
      (pss_one (ps_set (i := 1) scLFew.nd rfl (Or.inl rfl) (pe_op op_add (pv 1) pe_int))))))), ?_⟩
    refine ⟨fun m σ H' => m = 0 ∧ σ = [some (.ref a), some (.int 200), none] ∧ H' = H, ⟨0, rfl, rfl, rfl⟩, ?_⟩
    rintro m σ H' ⟨rfl, rfl, rfl⟩
    refine ⟨true, rfl, iteT ⟨fun _ _ => False, fun _ _ (z : False) => z.elim, ?_⟩⟩
    refine ⟨.ref a, rfl, a, sc, ns, i, sd, rs, rfl, hR, fun H1 p r m1 hA hg => ?_⟩
    refine ⟨.ref p, rfl, p, r, rfl, hA, hg, fun H2 n s2 hn => ?_⟩
    have hA2 := hA.same s2
    obtain ⟨m1, i1, sd1, rs1, hR1⟩ := m1
    refine ⟨.int 200, rfl, n, 200, rfl, rfl, _, rfl, ?_⟩
    rw [decide_eq_true (show n ≤ 200 by omega)]
    refine iteT ⟨.ref p, rfl, ?_⟩
    exact q H2 p r ⟨m1.trans (Sd.of s2), i1, sd1, rs1, s2 _ _ hR1.at_, hR1.scr.same s2, hR1.i0, hR1.s0, hR1.s1⟩ hA2 hg
end
end KX
end L2
namespace L2
namespace KX
open PySem PySem.W PySem.Spec PyProof.Rows
open KL
/-! ### all plays of a region -/
/-- a word with the span that it ends in -/
def WAt (H : Hp) (c : Addr) (p : List Sg × Spn) : Prop := ∃ pp, H c = some (.tup [.str (wordS p.1), .ref pp]) ∧ At2 H pp p.2
theorem WAt.same {H H' : Hp} {c : Addr} {p : List Sg × Spn} (e : Same H H') (h : WAt H c p) : WAt H' c p := by
  obtain ⟨pp, h1, h2⟩ := h
  exact ⟨pp, e _ _ h1, h2.same e⟩
def WsAt (H : Hp) (l : Addr) (ps : List (List Sg × Spn)) : Prop := ∃ cs : List Addr, H l = some (.lst (cs.map V.ref)) ∧ Paired (WAt H) cs ps
theorem WsAt.same {H H' : Hp} {l : Addr} {ps : List (List Sg × Spn)} (e : Same H H') (h : WsAt H l ps) : WsAt H' l ps := by
  obtain ⟨cs, h1, h2⟩ := h
  exact ⟨cs, e _ _ h1, Paired.mapP h2 fun _ _ z => z.same e⟩
theorem paired_app {α β : Type} {G : α → β → Prop} {a b : List α} {x y : List β} (h1 : Paired G a x) (h2 : Paired G b y) : Paired G (a ++ b) (x ++ y) := by
  induction h1 with
  | nil => exact h2
  | cons p _ ih => exact .cons p ih
theorem WsAt.snoc {H : Hp} {l c : Addr} {cs : List Addr} {ps : List (List Sg × Spn)} {p : List Sg × Spn} (h : H l = some (.lst (cs.map V.ref))) (h2 : Paired (WAt H) cs ps) (hp : WAt H c p) : WsAt (upd H l (.lst (cs.map V.ref ++ [.ref c]))) l (ps ++ [p]) := by
  refine ⟨cs ++ [c], by rw [upd_same, List.map_append]; rfl, ?_⟩
  have keep : ∀ o e v, WAt H e v → WAt (upd H l (.lst o)) e v := fun o e v z => by
    obtain ⟨pp, z1, z2⟩ := z
    refine ⟨pp, ?_, ?_⟩
    · rw [upd_ne (ne_of z1 h fun q => nomatch q)]
      exact z1
    · unfold At2 at *
      rw [upd_ne (ne_of z2 h fun q => nomatch q)]
      exact z2
  exact Paired.snoc (Paired.mapP h2 (keep _)) (keep _ _ _ hp)
/-- the first i signs' next words -/
def nxTo (r : Rg) (p : List Sg × Spn) (i : Nat) : List (List Sg × Spn) := (([Sg.L, Sg.R].take i).filter fun c => decide (after p.2 c ∈ spans r)).map fun c => (p.1 ++ [c], after p.2 c)
theorem nxTo_succ {r : Rg} {p : List Sg × Spn} {i : Nat} {c : Sg} (h : [Sg.L, Sg.R][i]? = some c) : nxTo r p (i + 1) = nxTo r p i ++ (if decide (after p.2 c ∈ spans r) = true then [(p.1 ++ [c], after p.2 c)] else []) := by
  unfold nxTo
  rw [List.take_add_one, h, List.filter_append, List.map_append]
  congr 1
  show List.map _ (List.filter _ [c]) = _
  rw [List.filter_cons, List.filter_nil]
  split <;> rfl
theorem nxTo_len (r : Rg) (p : List Sg × Spn) (i : Nat) : (nxTo r p i).length ≤ 2 := by
  unfold nxTo
  rw [List.length_map]
  refine Nat.le_trans (List.length_filter_le _ _) ?_
  rw [List.length_take]
  exact Nat.min_le_right _ _
theorem flat_len (r : Rg) : ∀ ps : List (List Sg × Spn), (ps.flatMap (nexts r)).length ≤ 2 * ps.length
  | [] => Nat.le_refl _
  | p :: ps => by
    rw [List.flatMap_cons, List.length_append, List.length_cons]
    have h1 := flat_len r ps
    have h2 : (nexts r p).length ≤ 2 := nxTo_len r p 2
    omega
theorem level_len (r : Rg) : ∀ n, (level r n).length ≤ 2 ^ n
  | 0 => Nat.le_refl _
  | n + 1 => by
    have h1 := flat_len r (level r n)
    have h2 := level_len r n
    show ((level r n).flatMap (nexts r)).length ≤ _
    rw [Nat.pow_succ]
    omega
theorem every_len {r : Rg} (h : Reg r) : (every r).length ≤ 256 := by
  unfold every
  rw [List.length_map]
  have h4 := fin_le h
  have h1 := level_len r ((KL.fin r).1 + (KL.fin r).2)
  have h2 : 2 ^ ((KL.fin r).1 + (KL.fin r).2) ≤ 2 ^ 8 := Nat.pow_le_pow_right (by decide) (by omega)
  exact Nat.le_trans h1 h2
theorem lr_word : ("LR" : Str) = wordS [.L, .R] := rfl
theorem spans_last {r : Rg} (h : Reg r) : (spans r)[(spans r).length - 1]? = some (KL.fin r) := by
  have hm : KL.fin r ∈ spans r := mem_spans.mpr (opn_fin h)
  have hp : 0 < (spans r).length := List.length_pos_of_mem hm
  obtain ⟨j, hj, e⟩ := List.getElem_of_mem hm
  have hlt : (spans r).length - 1 < (spans r).length := by omega
  rw [List.getElem?_eq_getElem hlt]
  by_cases hjl : j = (spans r).length - 1
  · subst hjl
    rw [e]
  · have hb := List.pairwise_iff_getElem.mp (spans_pw r) j ((spans r).length - 1) hj hlt (by omega)
    rw [e] at hb
    have hl := le_fin h (mem_spans.mp (List.getElem_mem hlt))
    rcases hb with hb | ⟨hb, hb2⟩
    · omega
    · omega
def d2 (u : Spn) : PyData := .tuple [.int (u.1 : Int), .int (u.2 : Int)]
theorem lay_list : ∀ us : List Spn, PyData.canLayAll0 (us.map d2) = true
  | [] => by simp [PyData.canLayAll0]
  | u :: us => by
    rw [List.map_cons, PyData.canLayAll0, lay_list us, Bool.and_true]
    exact lay2 _ _
theorem depth_list : ∀ us : List Spn, PyData.depthAll (us.map d2) ≤ 5
  | [] => by simp [PyData.depthAll]
  | u :: us => by
    have ih := depth_list us
    have e : (d2 u).depth ≤ 5 := by simp [d2, PyData.depth, PyData.depthAll]
    rw [List.map_cons, PyData.depthAll]
    omega
theorem shaped_list (us : List Spn) : SeqAt.shaped (.list (us.map d2)) = true := by
  unfold SeqAt.shaped
  rw [Bool.and_eq_true]
  refine ⟨?_, ?_⟩
  · rw [PyData.canLay0]
    exact lay_list us
  · rw [decide_eq_true_iff, PyData.depth]
    have := depth_list us
    omega
theorem dpl_list {K : PySem.W.Frag} {H : Hp} : ∀ {cs : List Addr} {us : List Spn}, Paired (At2 H) cs us → DpAll K H (cs.map V.ref) (us.map d2)
  | _, _, .nil => .nil
  | _, _, .cons h t => .cons (dp2 h) (dpl_list t)
theorem any_mem (us : List Spn) (u : Spn) : ((us.map d2).any fun z => PyData.eqv z (.tuple [.int (u.1 : Int), .int (u.2 : Int)])) = decide (u ∈ us) := by
  rw [Bool.eq_iff_iff, List.any_eq_true, decide_eq_true_iff]
  constructor
  · rintro ⟨z, hz, e⟩
    obtain ⟨v, hv, rfl⟩ := List.mem_map.mp hz
    unfold d2 at e
    rw [eqv2, decide_eq_true_iff] at e
    have e1 : v = u := Prod.ext (by omega) (by omega)
    rw [← e1]
    exact hv
  · intro h
    refine ⟨d2 u, List.mem_map.mpr ⟨u, h, rfl⟩, ?_⟩
    unfold d2
    rw [eqv2, decide_eq_true_iff]
    exact ⟨rfl, rfl⟩
theorem flat_take {r : Rg} {ps : List (List Sg × Spn)} {j : Nat} (h : j < ps.length) : (ps.take (j + 1)).flatMap (nexts r) = (ps.take j).flatMap (nexts r) ++ nexts r ps[j] := by
  rw [List.take_add_one, List.getElem?_eq_getElem h, List.flatMap_append]
  congr 1
  show List.flatMap _ [ps[j]] = _
  simp
section
variable {P : Program} {w : World} {K : PySem.W.Frag} {mg : Str → Option Value} {base : Heap}
def spPlays : Sp := fun vs H Q _ => ∃ (a : Addr) (r : Rg), vs = [.ref a] ∧ RgAt H a r ∧ Reg r ∧ ∀ H' l, Same H H' → H' l = some (.lst ((every r).map fun v => V.str (wordS v))) → Q (.ref l) H'
theorem ok_lplays (T : Txt K mg) : FnOk P w K mg base CX0 2 T.lPlays.f T.lPlays.fd ["_law_shape"] spPlays := by
  refine T.lPlays.F.ok scLPlays (fun vs H Q E h => ?_) (fun cdv A outer s H vs Q E hr h => ?_)
  · obtain ⟨a, r, rfl, _⟩ := h
    rfl
  · obtain ⟨a, r, rfl, hA, hR, q⟩ := h
    have hu65 : (A.deeper (envOfC (Str.ofString "_law_plays") (defScope sLPlays) s.heap.objs.size T.lPlays.f cdv)).units + 65 < cLine := by
      have := hr.un
      omega
    refine ⟨_, (pss_cons (ps_asg (pe_tup (pa_cons (pe_c T.lSpans (ok_lspans T) (hr.mono (by decide)) (pa_cons (pv 0) pa_nil)) (pa_cons (pe_lst (pa_cons (pe_tup (pa_cons pe_str (pa_cons (pe_tup (pa_cons pe_int (pa_cons pe_int pa_nil))) pa_nil))) pa_nil)) pa_nil))) (pg_tup rfl (pgs_cons (pg_name (i := 1) scLPlays.nd rfl (Or.inr rfl)) (pgs_cons (pg_name (i := 2) scLPlays.nd rfl (Or.inl rfl)) pgs_nil))))
      (pss_cons (ps_for PassesOwn.never rfl (pi_range1 (by rfl) T.z_range (pa_cons (pe_callB (cr_sumT rfl) (by rfl) T.z_sum boot_sum (pa_cons (pe_ix ix_list (pv 1) (pe_un un_neg pe_int) (fun _ _ => rfl)) pa_nil)) pa_nil)) (pg_name (i := 3) scLPlays.nd rfl (Or.inl rfl))
      (pss_cons (ps_set (i := 4) scLPlays.nd rfl (Or.inl rfl) (pe_lst pa_nil))
      (pss_cons (ps_for PassesOwn.never rfl (pi_list (pv 2)) (pg_tup rfl (pgs_cons (pg_name (i := 5) scLPlays.nd rfl (Or.inr rfl)) (pgs_cons (pg_name (i := 6) scLPlays.nd rfl (Or.inr rfl)) pgs_nil)))
      (pss_one (ps_set (i := 4) scLPlays.nd rfl (Or.inl rfl) (pe_op op_cat (pv 4) (pe_lc (X := (cxOf CX0 P w K mg base nLPlays "_law_plays" (defScope sLPlays) T.lPlays.f cdv A outer s H E).nox) (own := [("_law_sign", 7)]) rfl scLPlays.nd (pi_str pe_str) (blkOk_by (N := nLPlays) (sc := defScope sLPlays) (own := [("_law_sign", 7)]) (by decide +kernel)) (fun _ _ _ _ _ => (pg_name (i := 7) scLPlays.nd rfl (Or.inl rfl))) (fun _ _ _ _ _ => (pts_one (pt_cmpR (op_inDK (K := K) rfl hu65) (pe_c T.lAfter (ok_lafter T) (hr.mono (by decide)) (pa_cons (pv 6) (pa_cons (pv 7) pa_nil))) (pv 1) (by rfl)))) (fun _ _ _ _ _ => (pe_tup (pa_cons (pe_op op_add_str (pv 5) (pv 7)) (pa_cons (pe_c T.lAfter (ok_lafter T) (hr.mono (by decide)) (pa_cons (pv 6) (pa_cons (pv 7) pa_nil))) pa_nil)))))))))
      (pss_one (ps_set (i := 2) scLPlays.nd rfl (Or.inl rfl) (pv 4))))))
      (pss_one (ps_ret (pe_lc (X := (cxOf CX0 P w K mg base nLPlays "_law_plays" (defScope sLPlays) T.lPlays.f cdv A outer s H E).nox) (own := [("_law_word", 5), ("_law_span", 6)]) rfl scLPlays.nd (pi_list (pv 2)) (blkOk_by (N := nLPlays) (sc := defScope sLPlays) (own := [("_law_word", 5), ("_law_span", 6)]) (by decide +kernel)) (fun _ _ _ _ _ => (pg_tupK (K := K) (n := 2) rfl rfl (pgs_cons (pg_name (i := 5) scLPlays.nd rfl (Or.inl rfl)) (pgs_cons (pg_name (i := 6) scLPlays.nd rfl (Or.inl rfl)) pgs_nil)))) (fun _ _ _ _ _ => pts_nil) (fun _ _ _ _ _ => (pv 5))))))), ?_⟩
    refine ⟨.ref a, rfl, a, r, rfl, hA, hR, fun H1 ls s1 us => ?_⟩
    refine ⟨by show 2 ≤ sizeLine; decide, fun p0 n0 => ⟨by show 2 ≤ sizeLine; decide, fun p1 n1 => ⟨by show 1 ≤ sizeLine; decide, fun lf nf => ⟨by show 2 ≤ sizeLine; decide, fun p2 n2 => ?_⟩⟩⟩⟩
    have t0 : Same H1 (upd H1 p0 (.tup [.int 0, .int 0])) := Same.new n0
    have hp0 : At2 (upd H1 p0 (.tup [.int 0, .int 0])) p0 (0, 0) := upd_same
    generalize upd H1 p0 (.tup [.int 0, .int 0]) = H2 at t0 hp0 n1 nf n2 ⊢
    have t1 : Same H2 (upd H2 p1 (.tup [.str "", .ref p0])) := Same.new n1
    have hp1 : WAt (upd H2 p1 (.tup [.str "", .ref p0])) p1 ([], (0, 0)) := ⟨p0, upd_same, hp0.same t1⟩
    generalize upd H2 p1 (.tup [.str "", .ref p0]) = H3 at t1 hp1 nf n2 ⊢
    have t2 : Same H3 (upd H3 lf (.lst [.ref p1])) := Same.new nf
    have hlf : WsAt (upd H3 lf (.lst [.ref p1])) lf (level r 0) := ⟨[p1], upd_same, .cons (hp1.same t2) .nil⟩
    generalize upd H3 lf (.lst [.ref p1]) = H4 at t2 hlf n2 ⊢
    have t3 : Same H4 (upd H4 p2 (.tup [.ref ls, .ref lf])) := Same.new n2
    have hp2 : (upd H4 p2 (.tup [.ref ls, .ref lf])) p2 = some (.tup [.ref ls, .ref lf]) := upd_same
    generalize upd H4 p2 (.tup [.ref ls, .ref lf]) = H5 at t3 hp2 ⊢
    have s5 : Same H1 H5 := ((t0.trans t1).trans t2).trans t3
    have us5 := us.same s5
    have hlf5 := hlf.same t3
    have hf4 := fin_le hR
    refine ⟨p2, _, rfl, SqT.of hp2, rfl, _, _, rfl, _, _, rfl, rfl, ?_⟩
    obtain ⟨cs, hls, hcs⟩ := us5
    have ecs : (cs.map V.ref).length = (spans r).length := by rw [List.length_map, hcs.length]
    have hsp : 0 < (spans r).length := List.length_pos_of_mem (mem_spans.mpr (opn_fin hR))
    obtain ⟨cf, ef, hcf⟩ := paired_get' hcs (spans_last hR)
    refine ⟨.ref ls, rfl, 1, rfl, ls, _, -1, .ref cf, rfl, rfl, SqL.of hls, at_last (n := (spans r).length - 1) (by rw [ecs]; omega) (by rw [List.getElem?_map, ef]; rfl), ?_⟩
    have en : (([((KL.fin r).1 : Int), ((KL.fin r).2 : Int)] : List Int).sum).toNat = (KL.fin r).1 + (KL.fin r).2 := by
      show ((((KL.fin r).1 : Nat) : Int) + ((((KL.fin r).2 : Nat) : Int) + 0)).toNat = _
      omega
    have es : ([((KL.fin r).1 : Int), ((KL.fin r).2 : Int)] : List Int).sum = (((KL.fin r).1 + (KL.fin r).2 : Nat) : Int) := by
      show ((((KL.fin r).1 : Nat) : Int) + ((((KL.fin r).2 : Nat) : Int) + 0)) = _
      omega
    refine ⟨cf, [((KL.fin r).1 : Int), ((KL.fin r).2 : Int)], rfl, SqT.of hcf, _, rfl, by rw [es]; omega, by rw [es]; omega, for_range (n := (([((KL.fin r).1 : Int), ((KL.fin r).2 : Int)] : List Int).sum).toNat) (fun i σ H' => ∃ l y3 y4 y5 y6, σ = [some (.ref a), some (.ref ls), some (.ref l), y3, y4, y5, y6, none] ∧ Same H5 H' ∧ WsAt H' l (level r i)) ⟨lf, none, none, none, none, rfl, Same.refl _, hlf5⟩ (fun i σ H' hi h => ?_) (fun σ H' h => ?_)⟩
    · obtain ⟨l, y3, y4, y5, y6, rfl, s6, ws⟩ := h
      rw [en] at hi
      have hlen : (level r i).length ≤ 256 := by
        have h1 := level_len r i
        have h2 : 2 ^ i ≤ 2 ^ 8 := Nat.pow_le_pow_right (by decide) (by omega)
        exact Nat.le_trans h1 h2
      refine ⟨by show 0 ≤ sizeLine; decide, fun lo nlo => ?_⟩
      have s7 : Same H' (upd H' lo (.lst [])) := Same.new nlo
      have hlo : WsAt (upd H' lo (.lst [])) lo [] := ⟨[], upd_same, .nil⟩
      generalize upd H' lo (.lst []) = H6 at s7 hlo ⊢
      have s56 : Same H5 H6 := s6.trans s7
      obtain ⟨cl, hl, hcl⟩ := ws.same s7
      have ecl : (cl.map V.ref).length = (level r i).length := by rw [List.length_map, hcl.length]
      refine ⟨.ref l, rfl, l, rfl, ⟨_, SqL.of hl⟩, for_it (walk_list (xs := cl.map V.ref)) (fun j σ H' => ∃ lo y3 y5 y6, σ = [some (.ref a), some (.ref ls), some (.ref l), y3, some (.ref lo), y5, y6, none] ∧ Same H6 H' ∧ WsAt H' lo (((level r i).take j).flatMap (nexts r))) ⟨lo, _, y5, y6, rfl, Same.refl _, hlo⟩ (fun j σ H' _ h => ?_) (fun j x σ H7 H8 hj h y => ?_) (fun σ H' h => ?_)⟩
      · obtain ⟨_, _, _, _, _, s8, _⟩ := h
        exact SqL.of (s8 _ _ hl)
      · obtain ⟨lo, y3, y5, y6, rfl, s8, hlo⟩ := h
        obtain ⟨rfl, hx⟩ := y
        rw [ecl] at hj
        obtain ⟨c, hc, hw⟩ := paired_get' hcl (List.getElem?_eq_getElem hj)
        obtain rfl : x = .ref c := by
          rw [List.getElem?_map, hc] at hx
          exact (Option.some.inj hx).symm
        have hm : (level r i)[j] ∈ level r i := List.getElem_mem hj
        have hlo2 : ((level r i).take j).flatMap (nexts r) ++ nexts r (level r i)[j] = ((level r i).take (j + 1)).flatMap (nexts r) := (flat_take hj).symm
        have hlo3 : (((level r i).take j).flatMap (nexts r)).length ≤ 512 := by
          refine Nat.le_trans (flat_len r _) ?_
          rw [List.length_take]
          omega
        generalize ((level r i).take j).flatMap (nexts r) = acc0 at hlo hlo2 hlo3
        rw [← hlo2]
        clear hlo2
        have hpl := ((mem_level i _).mp hm).1
        generalize (level r i)[j] = p at hw hpl ⊢
        obtain ⟨ww, u⟩ := p
        have hpl : ww.length = i := hpl
        obtain ⟨pp, hw1, hw2⟩ := hw.same s8
        refine ⟨c, _, rfl, SqT.of hw1, rfl, _, _, rfl, _, _, rfl, rfl, ?_⟩
        refine ⟨.ref lo, rfl, "LR", rfl, ?_⟩
        intro D nD
        refine lc_it walk_str (fun k H2 => Same H8 H2 ∧ WsAt H2 D (nxTo r (ww, u) k)) ⟨Same.new nD, [], upd_same, .nil⟩ (fun _ _ _ _ => trivial) (fun k x H3 H4 hk h y => ?_) (fun H2 h => ?_)
        · obtain ⟨s2, hD⟩ := h
          obtain ⟨rfl, ch, hch, rfl⟩ := y
          obtain ⟨g, hg, eg⟩ := word_sign (w := [Sg.L, Sg.R]) hch
          rw [eg, nxTo_succ hg]
          have hpp := hw2.same s2
          refine ⟨rfl, ?_⟩
          refine ⟨.ref pp, rfl, .str (sgS g), rfl, pp, u, g, rfl, hpp, fun H5' p' s3 np' hp' => ?_⟩
          have us' := us.same ((((s5.trans s56).trans s8).trans s2).trans s3)
          obtain ⟨cs', hls', hcs'⟩ := us'
          refine ⟨.ref ls, rfl, _, _, dp2 hp', .lst (SqL.of hls') (dpl_list hcs'), shaped2 _ _, shaped_list _, _, rfl, ?_⟩
          rw [any_mem]
          by_cases hin : after u g ∈ spans r
          · rw [decide_eq_true hin]
            refine iteT ?_
            refine ⟨.str (wordS ww), rfl, .str (sgS g), rfl, wordS ww, sgS g, rfl, rfl, ?_, ?_⟩
            · rw [wordS_len]
              exact sz_le (by show ww.length + 1 ≤ 100000; omega)
            · refine ⟨.ref pp, rfl, .str (sgS g), rfl, pp, u, g, rfl, hpp.same s3, fun H6' p2' s4 np2 hp2' => ?_⟩
              refine ⟨by show 2 ≤ sizeLine; decide, fun p3 n3 => ?_⟩
              rw [wordS_snoc]
              have s9 : Same H6' (upd H6' p3 (.tup [.str (wordS (ww ++ [g])), .ref p2'])) := Same.new n3
              have hp3 : WAt (upd H6' p3 (.tup [.str (wordS (ww ++ [g])), .ref p2'])) p3 (ww ++ [g], after u g) := ⟨p2', upd_same, hp2'.same s9⟩
              generalize upd H6' p3 (.tup [.str (wordS (ww ++ [g])), .ref p2']) = H7' at s9 hp3 ⊢
              obtain ⟨cd, hd1, hd2⟩ := hD.same ((s3.trans s4).trans s9)
              refine ⟨cd.map V.ref, hd1, ?_, Same.mut (((s2.trans s3).trans s4).trans s9) nD, ?_⟩
              · rw [List.length_map, hd2.length]
                have := nxTo_len r (ww, u) k
                exact sz_lt (by omega)
              · rw [if_pos rfl]
                exact WsAt.snoc hd1 hd2 hp3
          · rw [decide_eq_false hin]
            refine iteF ⟨s2.trans s3, ?_⟩
            rw [if_neg Bool.false_ne_true, List.append_nil]
            exact hD.same s3
        · obtain ⟨s2, hD⟩ := h
          obtain ⟨cd, hd1, hd2⟩ := hD
          obtain ⟨co, ho1, ho2⟩ := hlo.same s2
          refine ⟨lo, D, co.map V.ref, cd.map V.ref, rfl, rfl, ho1, hd1, ?_, fun pn np => ?_⟩
          · rw [List.length_map, List.length_map, ho2.length, hd2.length]
            have := nxTo_len r (ww, u) ("LR" : Str).cps.size
            exact sz_le (by omega)
          · have sn : Same H2 (upd H2 pn (.lst (co.map V.ref ++ cd.map V.ref))) := Same.new np
            refine ⟨pn, _, _, _, rfl, (s8.trans s2).trans sn, co ++ cd, by rw [upd_same, List.map_append], ?_⟩
            exact paired_app (Paired.mapP ho2 fun _ _ z => z.same sn) (Paired.mapP hd2 fun _ _ z => z.same sn)
      · obtain ⟨lo, y3, y5, y6, rfl, s8, hlo⟩ := h
        rw [ecl, List.take_of_length_le (Nat.le_refl _)] at hlo
        exact ⟨.ref lo, rfl, lo, _, _, _, _, rfl, s56.trans s8, hlo⟩
    · obtain ⟨l, y3, y4, y5, y6, rfl, s6, ws⟩ := h
      rw [en] at ws
      obtain ⟨cl, hl, hcl⟩ := ws
      have ecl : (cl.map V.ref).length = (level r ((KL.fin r).1 + (KL.fin r).2)).length := by rw [List.length_map, hcl.length]
      have hel := every_len hR
      unfold every at hel
      rw [List.length_map] at hel
      have s15 : Same H H' := (s1.trans s5).trans s6
      clear en es
      generalize eL : level r ((KL.fin r).1 + (KL.fin r).2) = ps at hcl ecl hel
      refine ⟨.ref l, rfl, l, rfl, ⟨_, SqL.of hl⟩, ?_⟩
      intro D nD
      refine lc_it (walk_list (xs := cl.map V.ref)) (fun k H2 => Same H' H2 ∧ H2 D = some (.lst ((ps.take k).map fun p => V.str (wordS p.1)))) ⟨Same.new nD, upd_same⟩ (fun _ _ _ h => SqL.of (h.1 _ _ hl)) (fun k x H3 H4 hk h y => ?_) (fun H2 h => ?_)
      · obtain ⟨s2, hD⟩ := h
        obtain ⟨rfl, hx⟩ := y
        rw [ecl] at hk
        obtain ⟨c, hc, hw⟩ := paired_get' hcl (List.getElem?_eq_getElem hk)
        obtain rfl : x = .ref c := by
          rw [List.getElem?_map, hc] at hx
          exact (Option.some.inj hx).symm
        obtain ⟨pp, hw1, hw2⟩ := hw.same s2
        refine ⟨c, _, rfl, SqT.of hw1, rfl, _, _, rfl, _, _, rfl, rfl, rfl, ?_⟩
        refine ⟨_, rfl, _, hD, ?_, Same.mut s2 nD, ?_⟩
        · rw [List.length_map, List.length_take]
          exact sz_lt (by omega)
        · rw [upd_same, List.take_add_one, List.getElem?_eq_getElem hk, List.map_append]
          rfl
      · obtain ⟨s2, hD⟩ := h
        rw [ecl, List.take_of_length_le (Nat.le_refl _)] at hD
        refine q H2 D (s15.trans s2) ?_
        rw [hD]
        unfold every
        rw [eL, List.map_map]
        rfl
end
end KX
end L2
namespace L2
namespace KX
open PySem PySem.W PySem.Spec PyProof.Rows
open KL
theorem RgAt.sd {H H' : Hp} {a p : Addr} {r : Rg} {xs : List V} (h : RgAt H p r) (ha : H a = some (.lst xs)) (k : Sd a H H') : RgAt H' p r := by
  obtain ⟨cs, h1, h2⟩ := h
  exact ⟨cs, k _ _ (ne_of h1 ha fun z => nomatch z) h1, Paired.mapP h2 fun c u z => k _ _ (ne_of z ha fun z => nomatch z) z⟩
theorem first_at {α : Type} {v : α} : ∀ {l : List α}, v ∈ l → ∃ j : Nat, l[j]? = some v ∧ ∀ (m : Nat) (z : α), m < j → l[m]? = some z → z ≠ v
  | x :: l, h => by
    by_cases e : x = v
    · exact ⟨0, by rw [e]; rfl, fun m z hm => absurd hm (Nat.not_lt_zero _)⟩
    · rcases List.mem_cons.mp h with h | h
      · exact absurd h.symm e
      · obtain ⟨j, h1, h2⟩ := first_at h
        refine ⟨j + 1, by simpa using h1, fun m z hm hz => ?_⟩
        cases m with
        | zero =>
          have : x = z := by simpa using hz
          rw [← this]
          exact e
        | succ m => exact h2 m z (by omega) (by simpa using hz)
theorem flat_words (E : List (List Sg)) : (E.map fun v => V.str (wordS v)).all flatV = true := by
  rw [List.all_eq_true]
  intro x hx
  obtain ⟨v, _, rfl⟩ := List.mem_map.mp hx
  rfl
theorem eqV_word (v u : List Sg) : eqV (.str (wordS v)) (.str (wordS u)) = decide (v = u) := by
  show (wordS v == wordS u) = _
  by_cases h : v = u
  · rw [h, decide_eq_true rfl, beq_self_eq_true]
  · rw [decide_eq_false h]
    exact beq_eq_false_iff_ne.mpr fun z => h (wordS_inj z)
section
variable {P : Program} {w : World} {K : PySem.W.Frag} {mg : Str → Option Value} {base : Heap}
def spLaw (K : PySem.W.Frag) : Sp := fun vs H Q _ => ∃ (a : Addr) (ns : List Int), vs = [.ref a] ∧ Scr K H a ns ∧ ∀ H', Q (.bl true) H'
theorem ok_law (T : Txt K mg) (D : Dn K mg "law" sLaw ["_law_script"]) : FnOk P w K mg base CX0 6 D.f D.fd ["_law_script"] (spLaw K) := by
  refine D.F.ok scLaw (fun vs H Q E h => ?_) (fun cdv A outer s H vs Q E hr h => ?_)
  · obtain ⟨a, ns, rfl, _⟩ := h
    rfl
  · obtain ⟨sc, ns, rfl, hS, q⟩ := h
    refine ⟨_, (pss_cons (ps_set (i := 1) scLaw.nd rfl (Or.inl rfl) (pe_lst (pa_cons (pv 0) (pa_cons pe_int (pa_cons pe_int (pa_cons pe_int pa_nil))))))
      (pss_cons (ps_set (i := 2) scLaw.nd rfl (Or.inl rfl) (pe_c T.lFew (ok_lfew T) (hr.mono (by decide)) (pa_cons (pv 1) (pa_cons pe_int pa_nil))))
      (pss_cons (ps_set (i := 3) scLaw.nd rfl (Or.inl rfl) (pe_c T.lPlays (ok_lplays T) (hr.mono (by decide)) (pa_cons (pv 2) pa_nil)))
      (pss_cons (ps_setLc (X := (cxOf CX0 P w K mg base nLaw "law" (defScope sLaw) D.f cdv A outer s H E).nox) (own := [("_law_word", 4)]) (i := 5) rfl scLaw.nd rfl rfl (sw_true rfl rfl rfl (by decide +kernel)) (pi_list (pv 3)) (blkOk_by (N := nLaw) (sc := defScope sLaw) (own := [("_law_word", 4)]) (by decide +kernel)) (fun _ _ _ _ _ => (pg_name (i := 4) scLaw.nd rfl (Or.inl rfl))) (fun _ _ _ _ _ => pts_nil) (fun _ _ _ _ _ => (pe_c T.lWalk (ok_lwalk T) (hr.mono (by decide)) (pa_cons (pv 4) pa_nil))))
      (pss_cons (ps_set (i := 6) scLaw.nd rfl (Or.inl rfl) (pe_c T.lTaken (ok_taken T) (hr.mono (by decide)) (pa_cons (pv 1) (pa_cons (pe_callB call_len_seq (by rfl) T.z_len PySem.boot_len (pa_cons (pv 3) pa_nil)) pa_nil))))
      (pss_cons (ps_if (pt_not (pt_val (pe_c T.lAlike (ok_alike T) (hr.mono (by decide)) (pa_cons (pe_c T.walked (ok_walked T) (hr.mono (by decide)) (pa_cons (pv 2) (pa_cons (pe_ix ix_list (pv 3) (pv 6) (fun _ _ => rfl)) pa_nil))) (pa_cons (pe_ix ix_list (pv 5) (pv 6) (fun _ _ => rfl)) pa_nil))))) (pss_one (ps_ret pe_bl)) pss_nil)
      (pss_cons (ps_for PassesOwn.never rfl (pi_list (pe_lst (pa_cons (pe_tup (pa_cons (pe_c T.leastWalk (ok_least T) (hr.mono (by decide)) (pa_cons (pv 2) pa_nil)) (pa_cons (pe_callB (cr_min rfl) (by rfl) T.z_min boot_min (pa_cons (pv 5) pa_nil)) pa_nil))) (pa_cons (pe_tup (pa_cons (pe_c T.mostWalk (ok_most T) (hr.mono (by decide)) (pa_cons (pv 2) pa_nil)) (pa_cons (pe_callB (cr_max rfl) (by rfl) T.z_max boot_max (pa_cons (pv 5) pa_nil)) pa_nil))) pa_nil)))) (pg_tup rfl (pgs_cons (pg_name (i := 7) scLaw.nd rfl (Or.inl rfl)) (pgs_cons (pg_name (i := 8) scLaw.nd rfl (Or.inl rfl)) pgs_nil)))
      (pss_one (ps_if (PW.pt (pw_or (pt_not (pt_val (pe_isi (pv 7) T.z_isinstance T.z_tuple boot_tuple))) (pw_or (pt_not (pt_val (pe_c T.lAlike (ok_alike T) (hr.mono (by decide)) (pa_cons (pe_ix ix_tup (pv 7) pe_int (fun _ _ => rfl)) (pa_cons (pv 8) pa_nil))))) (pw_or (pt_cmpR op_notIn_seq (pe_ix ix_tup (pv 7) pe_int (fun _ _ => rfl)) (pv 3) (by rfl)) (pw_or1 (pt_cmpR op_ne (pe_ix ix_list (pv 5) (pe_bm PySem.F.plainAttrs_list PySem.F.slot_list_index PySem.F.type_list_index mt_index (pv 3) (pa_cons (pe_ix ix_tup (pv 7) pe_int (fun _ _ => rfl)) pa_nil)) (fun _ _ => rfl)) (pv 8) (nomark _))))))) (pss_one (ps_ret pe_bl)) pss_nil)))
      (pss_cons (ps_set (i := 9) scLaw.nd rfl (Or.inl rfl) (pe_lst pa_nil))
      (pss_cons (ps_for PassesOwn.never rfl (pi_zip (by rfl) T.z_zip (pa_cons (pv 3) (pa_cons (pv 5) pa_nil))) (pg_tup rfl (pgs_cons (pg_name (i := 4) scLaw.nd rfl (Or.inl rfl)) (pgs_cons (pg_name (i := 10) scLaw.nd rfl (Or.inl rfl)) pgs_nil)))
      (pss_one (ps_expr (pe_bm PySem.F.plainAttrs_list PySem.F.slot_list_append PySem.F.type_list_append mt_append (pv 9) (pa_cons (pe_op op_add (pv 10) (pe_callB call_abs (by rfl) T.z_abs boot_abs (pa_cons (pe_ix ix_list (pe_c T.lRooms (ok_lrooms T) (hr.mono (by decide)) (pa_cons (pv 4) pa_nil)) (pe_un un_neg pe_int) (fun _ _ => rfl)) pa_nil))) pa_nil)))))
      (pss_one (ps_ret (pe_c T.lAlike (ok_alike T) (hr.mono (by decide)) (pa_cons (pe_c T.walkBack (ok_back T) (hr.mono (by decide)) (pa_cons (pv 2) pa_nil)) (pa_cons (pe_callB (cr_min rfl) (by rfl) T.z_min boot_min (pa_cons (pv 9) pa_nil)) pa_nil)))))))))))))), ?_⟩
    refine ⟨.ref sc, rfl, by show 4 ≤ sizeLine; decide, fun a na => ?_⟩
    have s0 : Same H (upd H a (.lst [.ref sc, .int 0, .int 4739, .int 0])) := Same.new na
    have hR0 : RowAt K (upd H a (.lst [.ref sc, .int 0, .int 4739, .int 0])) a sc ns 0 4739 0 := ⟨upd_same, hS.same s0, by decide, by decide, by decide⟩
    generalize upd H a (.lst [.ref sc, .int 0, .int 4739, .int 0]) = H0 at hR0 ⊢
    refine ⟨.ref a, rfl, a, sc, ns, 0, 4739, 0, rfl, hR0, fun H1 p r m1 hA hg => ?_⟩
    obtain ⟨-, i1, sd1, rs1, hR1⟩ := m1
    refine ⟨.ref p, rfl, p, r, rfl, hA, hg, fun H2 le s2 hE => ?_⟩
    have hne := every_ne hg
    have hlen := every_len hg
    have hpl : ∀ v, v ∈ every r ↔ IsPlay r v := fun v => mem_every hg
    have hA2 := hA.same s2
    have hR2 : RowAt K H2 a sc ns i1 sd1 rs1 := ⟨s2 _ _ hR1.at_, hR1.scr.same s2, hR1.i0, hR1.s0, hR1.s1⟩
    have hla : le ≠ a := fun e => by
      rw [e, hR2.at_] at hE
      injection hE with hE
      injection hE with hE
      revert hE
      cases every r with
      | nil => intro hE; cases hE
      | cons v vs => intro hE; cases hE
    generalize hEr : every r = E0 at hE hne hlen hpl
    have el : (E0.map fun v => V.str (wordS v)).length = E0.length := List.length_map _
    have hpos : 0 < E0.length := List.length_pos_iff.mpr hne
    refine ⟨.ref le, rfl, le, rfl, ⟨_, SqL.of hE⟩, fun D nD => lc_it (walk_list (xs := E0.map fun v => V.str (wordS v))) (fun k H' => Same H2 H' ∧ H' D = some (.lst ((E0.take k).map fun v => V.int (walk v)))) ⟨Same.new nD, upd_same⟩ (fun _ _ _ h => SqL.of (h.1 _ _ hE)) (fun k x H3 H4 hk h y => ?_) (fun H3 h => ?_)⟩
    · obtain ⟨s3, hD⟩ := h
      obtain ⟨rfl, hx⟩ := y
      rw [el] at hk
      obtain rfl : x = .str (wordS E0[k]) := by
        rw [List.getElem?_map, List.getElem?_eq_getElem hk] at hx
        exact (Option.some.inj hx).symm
      have hp8 := play_short hg ((hpl _).mp (List.getElem_mem hk))
      refine ⟨rfl, .str (wordS E0[k]), rfl, E0[k], rfl, by omega, fun H5 s5 => ?_⟩
      refine ⟨_, s5 _ _ hD, ?_, Same.mut (s3.trans s5) nD, ?_⟩
      · rw [List.length_map, List.length_take]
        exact sz_lt (by omega)
      · rw [upd_same, List.take_add_one, List.getElem?_eq_getElem hk, List.map_append]
        rfl
    · obtain ⟨s3, hD⟩ := h
      rw [el, List.take_of_length_le (Nat.le_refl _)] at hD
      have hDa : D ≠ a := fun e => by rw [e, hR2.at_] at nD; cases nD
      have hR3 : RowAt K H3 a sc ns i1 sd1 rs1 := ⟨s3 _ _ hR2.at_, hR2.scr.same s3, hR2.i0, hR2.s0, hR2.s1⟩
      refine ⟨.ref a, rfl, .ref le, rfl, le, _, rfl, .inl (SqL.of (s3 _ _ hE)), a, sc, ns, i1, sd1, rs1, _, rfl, hR3, by rw [el]; omega, by rw [el]; omega, fun H4 t m4 t0 t1 => ?_⟩
      rw [el] at t1
      obtain ⟨t, rfl⟩ := Int.eq_ofNat_of_zero_le t0
      have ht : t < E0.length := by omega
      obtain ⟨sd4, -⟩ := m4
      have hA4 : RgAt H4 p r := (hA2.same s3).sd hR3.at_ sd4
      have hE4 := sd4 _ _ hla (s3 _ _ hE)
      have hD4 := sd4 _ _ hDa hD
      have hmt : E0[t] ∈ E0 := List.getElem_mem ht
      have eEt : (E0.map fun v => V.str (wordS v))[t]? = some (.str (wordS E0[t])) := by
        rw [List.getElem?_map, List.getElem?_eq_getElem ht]
        rfl
      have eDt : (E0.map fun v => V.int (walk v))[t]? = some (.int (walk E0[t])) := by
        rw [List.getElem?_map, List.getElem?_eq_getElem ht]
        rfl
      generalize E0[t] = wt at hmt eEt eDt
      refine ⟨.ref p, rfl, .ref le, rfl, .int (t : Nat), rfl, le, _, (t : Nat), .str (wordS wt), rfl, rfl, SqL.of hE4, atI_nat eEt, p, r, wt, rfl, hA4, hg, (hpl _).mp hmt, fun H5 s5 => ?_⟩
      refine ⟨.ref D, rfl, .int (t : Nat), rfl, D, _, (t : Nat), .int (walk wt), rfl, rfl, SqL.of (s5 _ _ hD4), atI_nat eDt, walk wt, walk wt, rfl, fun H6 s6 => ⟨_, rfl, iteNS rfl ?_⟩⟩
      have s46 := s5.trans s6
      have hA6 := hA4.same s46
      have hE6 := s46 _ _ hE4
      have hD6 := s46 _ _ hD4
      clear hR0 hR1 hR2 hR3 sd4 s46 s5 s6 hA4 hE4 hD4 hD hE hA2 hA
      have eD : (E0.map fun v => V.int (walk v)) = ((E0.map walk).map V.int) := by
        rw [List.map_map]
        rfl
      have hposD : 0 < (E0.map walk).length := by rw [List.length_map]; exact hpos
      refine ⟨.ref p, rfl, p, r, rfl, hA6, hg, fun H7 q1 w1 s7 hq1 pl1 op1 => ?_⟩
      have hD7 := s7 _ _ hD6
      refine ⟨.ref D, rfl, D, E0.map walk, rfl, SqL.of (by rw [← eD]; exact hD7), hposD, fun c1 hc1 hm1 => ⟨by show 2 ≤ sizeLine; decide, fun b1 nb1 => ?_⟩⟩
      have ec1 : c1 = walk w1 := by
        obtain ⟨v, hv, rfl⟩ := List.mem_map.mp hc1
        have g1 := op1 v ((hpl _).mp hv)
        have g2 := hm1 _ (List.mem_map.mpr ⟨w1, (hpl _).mpr pl1, rfl⟩)
        omega
      subst ec1
      have s8 : Same H7 (upd H7 b1 (.tup [.ref q1, .int (walk w1)])) := Same.new nb1
      have hb1 : (upd H7 b1 (.tup [.ref q1, .int (walk w1)])) b1 = some (.tup [.ref q1, .int (walk w1)]) := upd_same
      generalize upd H7 b1 (.tup [.ref q1, .int (walk w1)]) = H8 at s8 hb1 ⊢
      refine ⟨.ref p, rfl, p, r, rfl, hA6.same (s7.trans s8), hg, fun H9 q2 w2 s9 hq2 pl2 op2 => ?_⟩
      have hD9 := s9 _ _ (s8 _ _ hD7)
      refine ⟨.ref D, rfl, D, E0.map walk, rfl, SqL.of (by rw [← eD]; exact hD9), hposD, fun c2 hc2 hm2 => ⟨by show 2 ≤ sizeLine; decide, fun b2 nb2 => ⟨by show 2 ≤ sizeLine; decide, fun L nL => ?_⟩⟩⟩
      have ec2 : c2 = walk w2 := by
        obtain ⟨v, hv, rfl⟩ := List.mem_map.mp hc2
        have g1 := op2 v ((hpl _).mp hv)
        have g2 := hm2 _ (List.mem_map.mpr ⟨w2, (hpl _).mpr pl2, rfl⟩)
        omega
      subst ec2
      have s10 : Same H9 (upd H9 b2 (.tup [.ref q2, .int (walk w2)])) := Same.new nb2
      have hb2 : (upd H9 b2 (.tup [.ref q2, .int (walk w2)])) b2 = some (.tup [.ref q2, .int (walk w2)]) := upd_same
      generalize upd H9 b2 (.tup [.ref q2, .int (walk w2)]) = H10 at s10 hb2 nL ⊢
      have s11 : Same H10 (upd H10 L (.lst [.ref b1, .ref b2])) := Same.new nL
      have hL : (upd H10 L (.lst [.ref b1, .ref b2])) L = some (.lst [.ref b1, .ref b2]) := upd_same
      generalize upd H10 L (.lst [.ref b1, .ref b2]) = H11 at s11 hL ⊢
      have s711 : Same H7 H11 := ((s8.trans s9).trans s10).trans s11
      have hD11 := s711 _ _ hD7
      have hE11 := s711 _ _ (s7 _ _ hE6)
      have hA11 := hA6.same (s7.trans s711)
      have both : ∀ (x : V) (i : Nat), ([.ref b1, .ref b2] : List V)[i]? = some x → ∃ b q v, x = .ref b ∧ H11 b = some (.tup [.ref q, .int (walk v)]) ∧ H11 q = some (.tup [.int (walk v), .str (wordS v)]) ∧ v ∈ E0 := by
        intro x i hx
        match i, hx with
        | 0, hx =>
          obtain rfl : V.ref b1 = x := Option.some.inj hx
          exact ⟨b1, q1, w1, rfl, s11 _ _ (s10 _ _ (s9 _ _ hb1)), s711 _ _ hq1, (hpl _).mpr pl1⟩
        | 1, hx =>
          obtain rfl : V.ref b2 = x := Option.some.inj hx
          exact ⟨b2, q2, w2, rfl, s11 _ _ hb2, s11 _ _ (s10 _ _ hq2), (hpl _).mpr pl2⟩
        | i + 2, hx => cases hx
      clear hD7 hD9 hD6 hE6 hA6
      refine ⟨L, rfl, ⟨_, SqL.of hL⟩, for_it (walk_list (xs := [.ref b1, .ref b2])) (fun i σ H' => ∃ y7 y8, σ = [some (.ref sc), some (.ref a), some (.ref p), some (.ref le), none, some (.ref D), some (.int (t : Nat)), y7, y8, none, none] ∧ Same H11 H') ⟨none, none, rfl, Same.refl _⟩ (fun i σ H' _ h => ?_) (fun i x σ H12 H13 hi h y => ?_) (fun σ H' h => ?_)⟩
      · obtain ⟨_, _, _, s12⟩ := h
        exact SqL.of (s12 _ _ hL)
      · obtain ⟨y7, y8, rfl, s12⟩ := h
        obtain ⟨rfl, hx⟩ := y
        obtain ⟨b, q', v, rfl, hb, hq', hv⟩ := both _ _ hx
        have hq := s12 _ _ hq'
        refine ⟨b, _, rfl, SqT.of (s12 _ _ hb), rfl, _, _, rfl, _, _, rfl, rfl, ?_⟩
        refine ⟨.ref q', rfl, _, _, _, _, true, rfl, .ty _, .base (.tup hq), kit_ty (by decide +kernel), true, rfl, iteF ?_⟩
        refine ⟨.ref q', rfl, q', _, 0, _, rfl, rfl, SqT.of hq, rfl, .int (walk v), rfl, walk v, walk v, rfl, fun H14 s14 => ⟨_, rfl, iteNS rfl ?_⟩⟩
        have hq14 := s14 _ _ hq
        have hE14 := s14 _ _ (s12 _ _ hE11)
        have hD14 := s14 _ _ (s12 _ _ hD11)
        have hin : inV (.str (wordS v)) (E0.map fun v => V.str (wordS v)) = true := by
          refine List.any_eq_true.mpr ⟨.str (wordS v), List.mem_map.mpr ⟨v, hv, rfl⟩, ?_⟩
          rw [eqV_word]
          exact decide_eq_true rfl
        refine ⟨.ref q', rfl, q', _, 1, _, rfl, rfl, SqT.of hq14, rfl, .ref le, rfl, le, _, rfl, .inl (SqL.of hE14), rfl, flat_words _, _, rfl, ?_⟩
        rw [hin]
        refine iteF ?_
        obtain ⟨j, hj, hno⟩ := first_at hv
        refine ⟨.ref D, rfl, .ref le, rfl, .inl ⟨rfl, _, SqL.of hE14⟩, .ref q', rfl, q', _, 1, _, rfl, rfl, SqT.of hq14, rfl, le, _, .str (wordS v), j, .str (wordS v), rfl, rfl, SqL.of hE14, rfl, flat_words _, by rw [List.getElem?_map, hj]; rfl, by rw [eqV_word]; exact decide_eq_true rfl, fun m z hm hz => ?_, D, _, (j : Nat), .int (walk v), rfl, rfl, SqL.of hD14, atI_nat (by rw [List.getElem?_map, hj]; rfl), .int (walk v), rfl, rfl, _, rfl, iteNS rfl ⟨_, _, rfl, s12.trans s14⟩⟩
        rw [List.getElem?_map] at hz
        obtain ⟨u, hu, rfl⟩ := Option.map_eq_some_iff.mp hz
        rw [eqV_word]
        exact decide_eq_false (hno m u hm hu)
      · obtain ⟨y7, y8, rfl, s12⟩ := h
        refine ⟨by show 0 ≤ sizeLine; decide, fun lh nlh => ?_⟩
        have s13 : Same H' (upd H' lh (.lst [])) := Same.new nlh
        have hlh : (upd H' lh (.lst [])) lh = some (.lst []) := upd_same
        generalize upd H' lh (.lst []) = Hb at s13 hlh ⊢
        have hEb := s13 _ _ (s12 _ _ hE11)
        have hDb := s13 _ _ (s12 _ _ hD11)
        have hAb := hA11.same (s12.trans s13)
        have nle : le ≠ lh := fun e => by rw [e, hlh] at hEb; injection hEb with hEb; injection hEb with hEb; rw [← hEb] at el; exact absurd el.symm (Nat.ne_of_gt hpos)
        have nD' : D ≠ lh := fun e => by
          rw [e, hlh] at hDb
          injection hDb with hDb
          injection hDb with hDb
          have := congrArg List.length hDb
          rw [List.length_map] at this
          exact absurd this.symm (Nat.ne_of_gt hpos)
        refine ⟨.ref le, rfl, .ref D, rfl, le, D, _, _, rfl, SqL.of hEb, SqL.of hDb, for_it (walk_zip (xs := E0.map fun v => V.str (wordS v)) (ys := E0.map fun v => V.int (walk v)) (n := E0.length) (by rw [List.length_map, List.length_map, Nat.min_self])) (fun i σ H' => ∃ y4 y10, σ = [some (.ref sc), some (.ref a), some (.ref p), some (.ref le), y4, some (.ref D), some (.int (t : Nat)), y7, y8, some (.ref lh), y10] ∧ Sd lh Hb H' ∧ H' lh = some (.lst (((E0.take i).map fun v => walk v + homeOf r (lastd none v)).map V.int))) ⟨none, none, rfl, Sd.refl _ _, hlh⟩ (fun i σ H' _ h => ?_) (fun i x σ H12 H13 hi h y => ?_) (fun σ H' h => ?_)⟩
        · obtain ⟨_, _, _, k, _⟩ := h
          exact ⟨SqL.of (k _ _ nle hEb), SqL.of (k _ _ nD' hDb)⟩
        · obtain ⟨y4, y10, rfl, k, hk⟩ := h
          obtain ⟨Tp, x1, x2, rfl, nT, rfl, hx1, hx2⟩ := y
          have hEi : E0[i] ∈ E0 := List.getElem_mem hi
          have et : (E0.take (i + 1)) = E0.take i ++ [E0[i]] := by
            rw [List.take_add_one, List.getElem?_eq_getElem hi]
            rfl
          have hx1 : (E0.map fun v => V.str (wordS v))[i]? = some x1 := hx1
          have hx2 : (E0.map fun v => V.int (walk v))[i]? = some x2 := hx2
          rw [List.getElem?_map, List.getElem?_eq_getElem hi] at hx1 hx2
          obtain rfl := Option.some.inj hx1
          obtain rfl := Option.some.inj hx2
          rw [et]
          generalize E0[i] = v at hEi nT ⊢
          have pv := (hpl _).mp hEi
          have hp8 := play_short hg pv
          refine ⟨Tp, _, rfl, SqT.of upd_same, rfl, _, _, rfl, _, _, rfl, rfl, ?_⟩
          have s14 : Same H12 (upd H12 Tp (.tup [.str (wordS v), .int (walk v)])) := Same.new nT
          generalize upd H12 Tp (.tup [.str (wordS v), .int (walk v)]) = H14 at s14 ⊢
          refine ⟨.ref lh, rfl, .inl ⟨rfl, _, SqL.of (s14 _ _ hk)⟩, .int (walk v), rfl, .str (wordS v), rfl, v, rfl, by omega, fun H15 lr s15 hlr => ?_⟩
          have elr : ((roomsTo v v.length).map V.int)[v.length]? = some (.int (roomOf v)) := by
            unfold roomsTo
            rw [List.getElem?_map, List.getElem?_map, List.getElem?_range (Nat.lt_succ_self _)]
            show some (V.int (roomOf (v.take v.length))) = _
            rw [List.take_of_length_le (Nat.le_refl _)]
          refine ⟨1, rfl, lr, _, -1, .int (roomOf v), rfl, rfl, SqL.of hlr, at_last (n := v.length) (by rw [List.length_map, roomsTo_len]) elr, roomOf v, rfl, walk v, _, rfl, rfl, ?_⟩
          rw [room_home pv]
          refine ⟨lh, _, _, rfl, rfl, s15 _ _ (s14 _ _ hk), ?_, _, _, rfl, (k.trans (Sd.of (s14.trans s15))).trans Sd.upd, ?_⟩
          · rw [List.length_map, List.length_map, List.length_take]
            exact sz_lt (by omega)
          · rw [upd_same, List.map_append, List.map_append]
            rfl
        · obtain ⟨y4, y10, rfl, k, hk⟩ := h
          rw [List.take_of_length_le (Nat.le_refl _)] at hk
          have hAe : RgAt H' p r := hAb.sd hlh k
          refine ⟨.ref p, rfl, p, r, rfl, hAe, hg, fun H16 n s16 ex lo' => ?_⟩
          refine ⟨.ref lh, rfl, lh, _, rfl, SqL.of (s16 _ _ hk), by rw [List.length_map]; exact hpos, fun m hm hmin => ⟨n, m, rfl, fun H17 _ => ?_⟩⟩
          have e : n = m := by
            obtain ⟨v, hv, rfl⟩ := List.mem_map.mp hm
            obtain ⟨u, pu, e⟩ := ex
            have g1 := lo' v ((hpl _).mp hv)
            have g2 := hmin _ (List.mem_map.mpr ⟨u, (hpl _).mpr pu, rfl⟩)
            omega
          rw [decide_eq_true e]
          exact q H17
end
end KX
end L2
namespace L2
namespace KX
open PySem PySem.W PySem.Spec PyProof.Rows
/-! ### what the top has written; the law's own head -/
def dn_mk {K : PySem.W.Frag} {h : Heap} {mg : Str → Option Value} (X : K.In h) (G : h.Ns mainGlobals mg) {x : Str} {st : Stmt} {ps : List Str} {f : Addr} {oc : Value} {od an : Option Addr} {osl : Array (Option Value)} {kV doc pm cdv ct : Value}
    (a : PySem.W.nsIn K mainGlobals x = some (some (.ref f))) (l : K.lookup f = some ⟨oc, od, .func (PySem.W.fnOf x x (defArgs st) (defBody st) (defScope st) .none kV doc pm an cdv ct), osl⟩) (c : PySem.W.codeIn K cdv x = true) (k : PySem.W.keepIn K (.ref f) = true)
    (b : ∀ (kV doc pm : Value) (an : Option Addr) (cdv ct : Value) (us : List Value), us.length = ps.length → bindArgs (PySem.W.fnOf x x (defArgs st) (defBody st) (defScope st) .none kV doc pm an cdv ct) ⟨us, []⟩ = pure (ps.zip us)) : Dn K mg x st ps :=
  ⟨f, _, fun_mk l c k, (fun_mk l c k).binds b, PySem.W.mg_of X G a⟩
theorem scr_only {K : PySem.W.Frag} {H : Hp} {a : Addr} {ns : List Int} (hO : Only H) (hS : SqL K H a (ns.map V.int)) : Scr K H a ns := by
  rcases hS with (h | ⟨o, h⟩) | h
  · rcases hO a with e | ⟨o, xs, e⟩ <;> (rw [e] at h; cases h)
  · exact .inl ⟨o, h⟩
  · exact .inr h
theorem all_mk {l : PySem.W.OpenLaw} {w : World} {K : PySem.W.Frag} {h : Heap} {mg : Str → Option Value} {fa : Addr} (X : K.In h) (G : h.Ns mainGlobals mg) (hfa : mg "law" = some (.ref fa))
    {f1 : Addr} {oc1 : Value} {od1 an1 : Option Addr} {osl1 : Array (Option Value)} {kV1 dc1 pm1 cd1 ct1 : Value}
    (a1 : PySem.W.nsIn K mainGlobals "is_int" = some (some (.ref f1))) (l1 : K.lookup f1 = some ⟨oc1, od1, .func (PySem.W.fnOf "is_int" "is_int" (defArgs sIsInt) (defBody sIsInt) (defScope sIsInt) .none kV1 dc1 pm1 an1 cd1 ct1), osl1⟩) (c1 : PySem.W.codeIn K cd1 "is_int" = true) (k1 : PySem.W.keepIn K (.ref f1) = true)
    {f2 : Addr} {oc2 : Value} {od2 an2 : Option Addr} {osl2 : Array (Option Value)} {kV2 dc2 pm2 cd2 ct2 : Value}
    (a2 : PySem.W.nsIn K mainGlobals "is_in" = some (some (.ref f2))) (l2 : K.lookup f2 = some ⟨oc2, od2, .func (PySem.W.fnOf "is_in" "is_in" (defArgs sIsIn) (defBody sIsIn) (defScope sIsIn) .none kV2 dc2 pm2 an2 cd2 ct2), osl2⟩) (c2 : PySem.W.codeIn K cd2 "is_in" = true) (k2 : PySem.W.keepIn K (.ref f2) = true)
    {f3 : Addr} {oc3 : Value} {od3 an3 : Option Addr} {osl3 : Array (Option Value)} {kV3 dc3 pm3 cd3 ct3 : Value}
    (a3 : PySem.W.nsIn K mainGlobals "is_column" = some (some (.ref f3))) (l3 : K.lookup f3 = some ⟨oc3, od3, .func (PySem.W.fnOf "is_column" "is_column" (defArgs sIsColumn) (defBody sIsColumn) (defScope sIsColumn) .none kV3 dc3 pm3 an3 cd3 ct3), osl3⟩) (c3 : PySem.W.codeIn K cd3 "is_column" = true) (k3 : PySem.W.keepIn K (.ref f3) = true)
    {f4 : Addr} {oc4 : Value} {od4 an4 : Option Addr} {osl4 : Array (Option Value)} {kV4 dc4 pm4 cd4 ct4 : Value}
    (a4 : PySem.W.nsIn K mainGlobals "fits_behind" = some (some (.ref f4))) (l4 : K.lookup f4 = some ⟨oc4, od4, .func (PySem.W.fnOf "fits_behind" "fits_behind" (defArgs sFitsBehind) (defBody sFitsBehind) (defScope sFitsBehind) .none kV4 dc4 pm4 an4 cd4 ct4), osl4⟩) (c4 : PySem.W.codeIn K cd4 "fits_behind" = true) (k4 : PySem.W.keepIn K (.ref f4) = true)
    {f5 : Addr} {oc5 : Value} {od5 an5 : Option Addr} {osl5 : Array (Option Value)} {kV5 dc5 pm5 cd5 ct5 : Value}
    (a5 : PySem.W.nsIn K mainGlobals "need_region" = some (some (.ref f5))) (l5 : K.lookup f5 = some ⟨oc5, od5, .func (PySem.W.fnOf "need_region" "need_region" (defArgs sNeedRegion) (defBody sNeedRegion) (defScope sNeedRegion) .none kV5 dc5 pm5 an5 cd5 ct5), osl5⟩) (c5 : PySem.W.codeIn K cd5 "need_region" = true) (k5 : PySem.W.keepIn K (.ref f5) = true)
    {f6 : Addr} {oc6 : Value} {od6 an6 : Option Addr} {osl6 : Array (Option Value)} {kV6 dc6 pm6 cd6 ct6 : Value}
    (a6 : PySem.W.nsIn K mainGlobals "end_of" = some (some (.ref f6))) (l6 : K.lookup f6 = some ⟨oc6, od6, .func (PySem.W.fnOf "end_of" "end_of" (defArgs sEndOf) (defBody sEndOf) (defScope sEndOf) .none kV6 dc6 pm6 an6 cd6 ct6), osl6⟩) (c6 : PySem.W.codeIn K cd6 "end_of" = true) (k6 : PySem.W.keepIn K (.ref f6) = true)
    {f7 : Addr} {oc7 : Value} {od7 an7 : Option Addr} {osl7 : Array (Option Value)} {kV7 dc7 pm7 cd7 ct7 : Value}
    (a7 : PySem.W.nsIn K mainGlobals "is_open" = some (some (.ref f7))) (l7 : K.lookup f7 = some ⟨oc7, od7, .func (PySem.W.fnOf "is_open" "is_open" (defArgs sIsOpen) (defBody sIsOpen) (defScope sIsOpen) .none kV7 dc7 pm7 an7 cd7 ct7), osl7⟩) (c7 : PySem.W.codeIn K cd7 "is_open" = true) (k7 : PySem.W.keepIn K (.ref f7) = true)
    {f8 : Addr} {oc8 : Value} {od8 an8 : Option Addr} {osl8 : Array (Option Value)} {kV8 dc8 pm8 cd8 ct8 : Value}
    (a8 : PySem.W.nsIn K mainGlobals "spans_of" = some (some (.ref f8))) (l8 : K.lookup f8 = some ⟨oc8, od8, .func (PySem.W.fnOf "spans_of" "spans_of" (defArgs sSpansOf) (defBody sSpansOf) (defScope sSpansOf) .none kV8 dc8 pm8 an8 cd8 ct8), osl8⟩) (c8 : PySem.W.codeIn K cd8 "spans_of" = true) (k8 : PySem.W.keepIn K (.ref f8) = true)
    {f9 : Addr} {oc9 : Value} {od9 an9 : Option Addr} {osl9 : Array (Option Value)} {kV9 dc9 pm9 cd9 ct9 : Value}
    (a9 : PySem.W.nsIn K mainGlobals "steps_in" = some (some (.ref f9))) (l9 : K.lookup f9 = some ⟨oc9, od9, .func (PySem.W.fnOf "steps_in" "steps_in" (defArgs sStepsIn) (defBody sStepsIn) (defScope sStepsIn) .none kV9 dc9 pm9 an9 cd9 ct9), osl9⟩) (c9 : PySem.W.codeIn K cd9 "steps_in" = true) (k9 : PySem.W.keepIn K (.ref f9) = true)
    {f10 : Addr} {oc10 : Value} {od10 an10 : Option Addr} {osl10 : Array (Option Value)} {kV10 dc10 pm10 cd10 ct10 : Value}
    (a10 : PySem.W.nsIn K mainGlobals "after" = some (some (.ref f10))) (l10 : K.lookup f10 = some ⟨oc10, od10, .func (PySem.W.fnOf "after" "after" (defArgs sAfter) (defBody sAfter) (defScope sAfter) .none kV10 dc10 pm10 an10 cd10 ct10), osl10⟩) (c10 : PySem.W.codeIn K cd10 "after" = true) (k10 : PySem.W.keepIn K (.ref f10) = true)
    {f11 : Addr} {oc11 : Value} {od11 an11 : Option Addr} {osl11 : Array (Option Value)} {kV11 dc11 pm11 cd11 ct11 : Value}
    (a11 : PySem.W.nsIn K mainGlobals "spans_on" = some (some (.ref f11))) (l11 : K.lookup f11 = some ⟨oc11, od11, .func (PySem.W.fnOf "spans_on" "spans_on" (defArgs sSpansOn) (defBody sSpansOn) (defScope sSpansOn) .none kV11 dc11 pm11 an11 cd11 ct11), osl11⟩) (c11 : PySem.W.codeIn K cd11 "spans_on" = true) (k11 : PySem.W.keepIn K (.ref f11) = true)
    {f12 : Addr} {oc12 : Value} {od12 an12 : Option Addr} {osl12 : Array (Option Value)} {kV12 dc12 pm12 cd12 ct12 : Value}
    (a12 : PySem.W.nsIn K mainGlobals "need_play" = some (some (.ref f12))) (l12 : K.lookup f12 = some ⟨oc12, od12, .func (PySem.W.fnOf "need_play" "need_play" (defArgs sNeedPlay) (defBody sNeedPlay) (defScope sNeedPlay) .none kV12 dc12 pm12 an12 cd12 ct12), osl12⟩) (c12 : PySem.W.codeIn K cd12 "need_play" = true) (k12 : PySem.W.keepIn K (.ref f12) = true)
    {f13 : Addr} {oc13 : Value} {od13 an13 : Option Addr} {osl13 : Array (Option Value)} {kV13 dc13 pm13 cd13 ct13 : Value}
    (a13 : PySem.W.nsIn K mainGlobals "cost_of" = some (some (.ref f13))) (l13 : K.lookup f13 = some ⟨oc13, od13, .func (PySem.W.fnOf "cost_of" "cost_of" (defArgs sCostOf) (defBody sCostOf) (defScope sCostOf) .none kV13 dc13 pm13 an13 cd13 ct13), osl13⟩) (c13 : PySem.W.codeIn K cd13 "cost_of" = true) (k13 : PySem.W.keepIn K (.ref f13) = true)
    {f14 : Addr} {oc14 : Value} {od14 an14 : Option Addr} {osl14 : Array (Option Value)} {kV14 dc14 pm14 cd14 ct14 : Value}
    (a14 : PySem.W.nsIn K mainGlobals "walked" = some (some (.ref f14))) (l14 : K.lookup f14 = some ⟨oc14, od14, .func (PySem.W.fnOf "walked" "walked" (defArgs sWalked) (defBody sWalked) (defScope sWalked) .none kV14 dc14 pm14 an14 cd14 ct14), osl14⟩) (c14 : PySem.W.codeIn K cd14 "walked" = true) (k14 : PySem.W.keepIn K (.ref f14) = true)
    {f15 : Addr} {oc15 : Value} {od15 an15 : Option Addr} {osl15 : Array (Option Value)} {kV15 dc15 pm15 cd15 ct15 : Value}
    (a15 : PySem.W.nsIn K mainGlobals "table_of" = some (some (.ref f15))) (l15 : K.lookup f15 = some ⟨oc15, od15, .func (PySem.W.fnOf "table_of" "table_of" (defArgs sTableOf) (defBody sTableOf) (defScope sTableOf) .none kV15 dc15 pm15 an15 cd15 ct15), osl15⟩) (c15 : PySem.W.codeIn K cd15 "table_of" = true) (k15 : PySem.W.keepIn K (.ref f15) = true)
    {f16 : Addr} {oc16 : Value} {od16 an16 : Option Addr} {osl16 : Array (Option Value)} {kV16 dc16 pm16 cd16 ct16 : Value}
    (a16 : PySem.W.nsIn K mainGlobals "ends_in" = some (some (.ref f16))) (l16 : K.lookup f16 = some ⟨oc16, od16, .func (PySem.W.fnOf "ends_in" "ends_in" (defArgs sEndsIn) (defBody sEndsIn) (defScope sEndsIn) .none kV16 dc16 pm16 an16 cd16 ct16), osl16⟩) (c16 : PySem.W.codeIn K cd16 "ends_in" = true) (k16 : PySem.W.keepIn K (.ref f16) = true)
    {f17 : Addr} {oc17 : Value} {od17 an17 : Option Addr} {osl17 : Array (Option Value)} {kV17 dc17 pm17 cd17 ct17 : Value}
    (a17 : PySem.W.nsIn K mainGlobals "least_walk" = some (some (.ref f17))) (l17 : K.lookup f17 = some ⟨oc17, od17, .func (PySem.W.fnOf "least_walk" "least_walk" (defArgs sLeastWalk) (defBody sLeastWalk) (defScope sLeastWalk) .none kV17 dc17 pm17 an17 cd17 ct17), osl17⟩) (c17 : PySem.W.codeIn K cd17 "least_walk" = true) (k17 : PySem.W.keepIn K (.ref f17) = true)
    {f18 : Addr} {oc18 : Value} {od18 an18 : Option Addr} {osl18 : Array (Option Value)} {kV18 dc18 pm18 cd18 ct18 : Value}
    (a18 : PySem.W.nsIn K mainGlobals "most_walk" = some (some (.ref f18))) (l18 : K.lookup f18 = some ⟨oc18, od18, .func (PySem.W.fnOf "most_walk" "most_walk" (defArgs sMostWalk) (defBody sMostWalk) (defScope sMostWalk) .none kV18 dc18 pm18 an18 cd18 ct18), osl18⟩) (c18 : PySem.W.codeIn K cd18 "most_walk" = true) (k18 : PySem.W.keepIn K (.ref f18) = true)
    {f19 : Addr} {oc19 : Value} {od19 an19 : Option Addr} {osl19 : Array (Option Value)} {kV19 dc19 pm19 cd19 ct19 : Value}
    (a19 : PySem.W.nsIn K mainGlobals "walk_back" = some (some (.ref f19))) (l19 : K.lookup f19 = some ⟨oc19, od19, .func (PySem.W.fnOf "walk_back" "walk_back" (defArgs sWalkBack) (defBody sWalkBack) (defScope sWalkBack) .none kV19 dc19 pm19 an19 cd19 ct19), osl19⟩) (c19 : PySem.W.codeIn K cd19 "walk_back" = true) (k19 : PySem.W.keepIn K (.ref f19) = true)
    {f20 : Addr} {oc20 : Value} {od20 an20 : Option Addr} {osl20 : Array (Option Value)} {kV20 dc20 pm20 cd20 ct20 : Value}
    (a20 : PySem.W.nsIn K mainGlobals "_law_taken" = some (some (.ref f20))) (l20 : K.lookup f20 = some ⟨oc20, od20, .func (PySem.W.fnOf "_law_taken" "_law_taken" (defArgs sLTaken) (defBody sLTaken) (defScope sLTaken) .none kV20 dc20 pm20 an20 cd20 ct20), osl20⟩) (c20 : PySem.W.codeIn K cd20 "_law_taken" = true) (k20 : PySem.W.keepIn K (.ref f20) = true)
    {f21 : Addr} {oc21 : Value} {od21 an21 : Option Addr} {osl21 : Array (Option Value)} {kV21 dc21 pm21 cd21 ct21 : Value}
    (a21 : PySem.W.nsIn K mainGlobals "_law_alike" = some (some (.ref f21))) (l21 : K.lookup f21 = some ⟨oc21, od21, .func (PySem.W.fnOf "_law_alike" "_law_alike" (defArgs sLAlike) (defBody sLAlike) (defScope sLAlike) .none kV21 dc21 pm21 an21 cd21 ct21), osl21⟩) (c21 : PySem.W.codeIn K cd21 "_law_alike" = true) (k21 : PySem.W.keepIn K (.ref f21) = true)
    {f22 : Addr} {oc22 : Value} {od22 an22 : Option Addr} {osl22 : Array (Option Value)} {kV22 dc22 pm22 cd22 ct22 : Value}
    (a22 : PySem.W.nsIn K mainGlobals "_law_after" = some (some (.ref f22))) (l22 : K.lookup f22 = some ⟨oc22, od22, .func (PySem.W.fnOf "_law_after" "_law_after" (defArgs sLAfter) (defBody sLAfter) (defScope sLAfter) .none kV22 dc22 pm22 an22 cd22 ct22), osl22⟩) (c22 : PySem.W.codeIn K cd22 "_law_after" = true) (k22 : PySem.W.keepIn K (.ref f22) = true)
    {f23 : Addr} {oc23 : Value} {od23 an23 : Option Addr} {osl23 : Array (Option Value)} {kV23 dc23 pm23 cd23 ct23 : Value}
    (a23 : PySem.W.nsIn K mainGlobals "_law_region" = some (some (.ref f23))) (l23 : K.lookup f23 = some ⟨oc23, od23, .func (PySem.W.fnOf "_law_region" "_law_region" (defArgs sLRegion) (defBody sLRegion) (defScope sLRegion) .none kV23 dc23 pm23 an23 cd23 ct23), osl23⟩) (c23 : PySem.W.codeIn K cd23 "_law_region" = true) (k23 : PySem.W.keepIn K (.ref f23) = true)
    {f24 : Addr} {oc24 : Value} {od24 an24 : Option Addr} {osl24 : Array (Option Value)} {kV24 dc24 pm24 cd24 ct24 : Value}
    (a24 : PySem.W.nsIn K mainGlobals "_law_spans" = some (some (.ref f24))) (l24 : K.lookup f24 = some ⟨oc24, od24, .func (PySem.W.fnOf "_law_spans" "_law_spans" (defArgs sLSpans) (defBody sLSpans) (defScope sLSpans) .none kV24 dc24 pm24 an24 cd24 ct24), osl24⟩) (c24 : PySem.W.codeIn K cd24 "_law_spans" = true) (k24 : PySem.W.keepIn K (.ref f24) = true)
    {f25 : Addr} {oc25 : Value} {od25 an25 : Option Addr} {osl25 : Array (Option Value)} {kV25 dc25 pm25 cd25 ct25 : Value}
    (a25 : PySem.W.nsIn K mainGlobals "_law_plays" = some (some (.ref f25))) (l25 : K.lookup f25 = some ⟨oc25, od25, .func (PySem.W.fnOf "_law_plays" "_law_plays" (defArgs sLPlays) (defBody sLPlays) (defScope sLPlays) .none kV25 dc25 pm25 an25 cd25 ct25), osl25⟩) (c25 : PySem.W.codeIn K cd25 "_law_plays" = true) (k25 : PySem.W.keepIn K (.ref f25) = true)
    {f26 : Addr} {oc26 : Value} {od26 an26 : Option Addr} {osl26 : Array (Option Value)} {kV26 dc26 pm26 cd26 ct26 : Value}
    (a26 : PySem.W.nsIn K mainGlobals "_law_path" = some (some (.ref f26))) (l26 : K.lookup f26 = some ⟨oc26, od26, .func (PySem.W.fnOf "_law_path" "_law_path" (defArgs sLPath) (defBody sLPath) (defScope sLPath) .none kV26 dc26 pm26 an26 cd26 ct26), osl26⟩) (c26 : PySem.W.codeIn K cd26 "_law_path" = true) (k26 : PySem.W.keepIn K (.ref f26) = true)
    {f27 : Addr} {oc27 : Value} {od27 an27 : Option Addr} {osl27 : Array (Option Value)} {kV27 dc27 pm27 cd27 ct27 : Value}
    (a27 : PySem.W.nsIn K mainGlobals "_law_rooms" = some (some (.ref f27))) (l27 : K.lookup f27 = some ⟨oc27, od27, .func (PySem.W.fnOf "_law_rooms" "_law_rooms" (defArgs sLRooms) (defBody sLRooms) (defScope sLRooms) .none kV27 dc27 pm27 an27 cd27 ct27), osl27⟩) (c27 : PySem.W.codeIn K cd27 "_law_rooms" = true) (k27 : PySem.W.keepIn K (.ref f27) = true)
    {f28 : Addr} {oc28 : Value} {od28 an28 : Option Addr} {osl28 : Array (Option Value)} {kV28 dc28 pm28 cd28 ct28 : Value}
    (a28 : PySem.W.nsIn K mainGlobals "_law_count" = some (some (.ref f28))) (l28 : K.lookup f28 = some ⟨oc28, od28, .func (PySem.W.fnOf "_law_count" "_law_count" (defArgs sLCount) (defBody sLCount) (defScope sLCount) .none kV28 dc28 pm28 an28 cd28 ct28), osl28⟩) (c28 : PySem.W.codeIn K cd28 "_law_count" = true) (k28 : PySem.W.keepIn K (.ref f28) = true)
    {f29 : Addr} {oc29 : Value} {od29 an29 : Option Addr} {osl29 : Array (Option Value)} {kV29 dc29 pm29 cd29 ct29 : Value}
    (a29 : PySem.W.nsIn K mainGlobals "_law_few" = some (some (.ref f29))) (l29 : K.lookup f29 = some ⟨oc29, od29, .func (PySem.W.fnOf "_law_few" "_law_few" (defArgs sLFew) (defBody sLFew) (defScope sLFew) .none kV29 dc29 pm29 an29 cd29 ct29), osl29⟩) (c29 : PySem.W.codeIn K cd29 "_law_few" = true) (k29 : PySem.W.keepIn K (.ref f29) = true)
    {f30 : Addr} {oc30 : Value} {od30 an30 : Option Addr} {osl30 : Array (Option Value)} {kV30 dc30 pm30 cd30 ct30 : Value}
    (a30 : PySem.W.nsIn K mainGlobals "_law_walk" = some (some (.ref f30))) (l30 : K.lookup f30 = some ⟨oc30, od30, .func (PySem.W.fnOf "_law_walk" "_law_walk" (defArgs sLWalk) (defBody sLWalk) (defScope sLWalk) .none kV30 dc30 pm30 an30 cd30 ct30), osl30⟩) (c30 : PySem.W.codeIn K cd30 "_law_walk" = true) (k30 : PySem.W.keepIn K (.ref f30) = true)
    {f31 : Addr} {oc31 : Value} {od31 an31 : Option Addr} {osl31 : Array (Option Value)} {kV31 dc31 pm31 cd31 ct31 : Value}
    (a31 : PySem.W.nsIn K mainGlobals "law" = some (some (.ref f31))) (l31 : K.lookup f31 = some ⟨oc31, od31, .func (PySem.W.fnOf "law" "law" (defArgs sLaw) (defBody sLaw) (defScope sLaw) .none kV31 dc31 pm31 an31 cd31 ct31), osl31⟩) (c31 : PySem.W.codeIn K cd31 "law" = true) (k31 : PySem.W.keepIn K (.ref f31) = true)
    {tm : _} (hm : PySem.W.nsIn K mainGlobals "MOST_ROOMS" = some (some (.int 60 tm)))
    (z_isinstance : PySem.W.nsIn K mainGlobals "isinstance" = some none)
    (z_int : PySem.W.nsIn K mainGlobals "int" = some none)
    (z_bool : PySem.W.nsIn K mainGlobals "bool" = some none)
    (z_tuple : PySem.W.nsIn K mainGlobals "tuple" = some none)
    (z_list : PySem.W.nsIn K mainGlobals "list" = some none)
    (z_len : PySem.W.nsIn K mainGlobals "len" = some none)
    (z_enumerate : PySem.W.nsIn K mainGlobals "enumerate" = some none)
    (z_str : PySem.W.nsIn K mainGlobals "str" = some none)
    (z_sum : PySem.W.nsIn K mainGlobals "sum" = some none)
    (z_zip : PySem.W.nsIn K mainGlobals "zip" = some none)
    (z_min : PySem.W.nsIn K mainGlobals "min" = some none)
    (z_max : PySem.W.nsIn K mainGlobals "max" = some none)
    (z_range : PySem.W.nsIn K mainGlobals "range" = some none)
    (z_abs : PySem.W.nsIn K mainGlobals "abs" = some none) :
    ∃ fd : FuncData, (∀ (s : Shared) (v : Value), BindsTo s fd ⟨[v], []⟩ [("_law_script", v)]) ∧ ∀ base : Heap, K.In base → base.Ns mainGlobals mg → FnOk l.prog w K mg base CX0 6 fa fd ["_law_script"] (spLaw K) := by
  have e := hfa.symm.trans (PySem.W.mg_of X G a31)
  cases e
  have T : Txt K mg := {
    isInt := dn_mk X G a1 l1 c1 k1 fun _ _ _ _ _ _ us hl => match us, hl with | [_], _ => rfl
    isIn := dn_mk X G a2 l2 c2 k2 fun _ _ _ _ _ _ us hl => match us, hl with | [_, _, _], _ => rfl
    isColumn := dn_mk X G a3 l3 c3 k3 fun _ _ _ _ _ _ us hl => match us, hl with | [_], _ => rfl
    fitsBehind := dn_mk X G a4 l4 c4 k4 fun _ _ _ _ _ _ us hl => match us, hl with | [_, _], _ => rfl
    needRegion := dn_mk X G a5 l5 c5 k5 fun _ _ _ _ _ _ us hl => match us, hl with | [_], _ => rfl
    endOf := dn_mk X G a6 l6 c6 k6 fun _ _ _ _ _ _ us hl => match us, hl with | [_], _ => rfl
    isOpen := dn_mk X G a7 l7 c7 k7 fun _ _ _ _ _ _ us hl => match us, hl with | [_, _], _ => rfl
    spansOf := dn_mk X G a8 l8 c8 k8 fun _ _ _ _ _ _ us hl => match us, hl with | [_], _ => rfl
    stepsIn := dn_mk X G a9 l9 c9 k9 fun _ _ _ _ _ _ us hl => match us, hl with | [_, _], _ => rfl
    after := dn_mk X G a10 l10 c10 k10 fun _ _ _ _ _ _ us hl => match us, hl with | [_, _], _ => rfl
    spansOn := dn_mk X G a11 l11 c11 k11 fun _ _ _ _ _ _ us hl => match us, hl with | [_], _ => rfl
    needPlay := dn_mk X G a12 l12 c12 k12 fun _ _ _ _ _ _ us hl => match us, hl with | [_, _], _ => rfl
    costOf := dn_mk X G a13 l13 c13 k13 fun _ _ _ _ _ _ us hl => match us, hl with | [_, _, _], _ => rfl
    walked := dn_mk X G a14 l14 c14 k14 fun _ _ _ _ _ _ us hl => match us, hl with | [_, _], _ => rfl
    tableOf := dn_mk X G a15 l15 c15 k15 fun _ _ _ _ _ _ us hl => match us, hl with | [_, _], _ => rfl
    endsIn := dn_mk X G a16 l16 c16 k16 fun _ _ _ _ _ _ us hl => match us, hl with | [_, _], _ => rfl
    leastWalk := dn_mk X G a17 l17 c17 k17 fun _ _ _ _ _ _ us hl => match us, hl with | [_], _ => rfl
    mostWalk := dn_mk X G a18 l18 c18 k18 fun _ _ _ _ _ _ us hl => match us, hl with | [_], _ => rfl
    walkBack := dn_mk X G a19 l19 c19 k19 fun _ _ _ _ _ _ us hl => match us, hl with | [_], _ => rfl
    lTaken := dn_mk X G a20 l20 c20 k20 fun _ _ _ _ _ _ us hl => match us, hl with | [_, _], _ => rfl
    lAlike := dn_mk X G a21 l21 c21 k21 fun _ _ _ _ _ _ us hl => match us, hl with | [_, _], _ => rfl
    lAfter := dn_mk X G a22 l22 c22 k22 fun _ _ _ _ _ _ us hl => match us, hl with | [_, _], _ => rfl
    lRegion := dn_mk X G a23 l23 c23 k23 fun _ _ _ _ _ _ us hl => match us, hl with | [_, _, _], _ => rfl
    lSpans := dn_mk X G a24 l24 c24 k24 fun _ _ _ _ _ _ us hl => match us, hl with | [_], _ => rfl
    lPlays := dn_mk X G a25 l25 c25 k25 fun _ _ _ _ _ _ us hl => match us, hl with | [_], _ => rfl
    lPath := dn_mk X G a26 l26 c26 k26 fun _ _ _ _ _ _ us hl => match us, hl with | [_], _ => rfl
    lRooms := dn_mk X G a27 l27 c27 k27 fun _ _ _ _ _ _ us hl => match us, hl with | [_], _ => rfl
    lCount := dn_mk X G a28 l28 c28 k28 fun _ _ _ _ _ _ us hl => match us, hl with | [_], _ => rfl
    lFew := dn_mk X G a29 l29 c29 k29 fun _ _ _ _ _ _ us hl => match us, hl with | [_, _], _ => rfl
    lWalk := dn_mk X G a30 l30 c30 k30 fun _ _ _ _ _ _ us hl => match us, hl with | [_], _ => rfl
    most := ⟨_, PySem.W.mg_of X G hm⟩
    z_isinstance := PySem.W.mg_none_of X G z_isinstance
    z_int := PySem.W.mg_none_of X G z_int
    z_bool := PySem.W.mg_none_of X G z_bool
    z_tuple := PySem.W.mg_none_of X G z_tuple
    z_list := PySem.W.mg_none_of X G z_list
    z_len := PySem.W.mg_none_of X G z_len
    z_enumerate := PySem.W.mg_none_of X G z_enumerate
    z_str := PySem.W.mg_none_of X G z_str
    z_sum := PySem.W.mg_none_of X G z_sum
    z_zip := PySem.W.mg_none_of X G z_zip
    z_min := PySem.W.mg_none_of X G z_min
    z_max := PySem.W.mg_none_of X G z_max
    z_range := PySem.W.mg_none_of X G z_range
    z_abs := PySem.W.mg_none_of X G z_abs }
  exact ⟨PySem.W.fnOf "law" "law" (defArgs sLaw) (defBody sLaw) (defScope sLaw) .none kV31 dc31 pm31 an31 cd31 ct31, fun s v => .of_eq rfl, fun base _ _ => ok_law T (dn_mk X G a31 l31 c31 k31 fun _ _ _ _ _ _ us hl => match us, hl with | [_], _ => rfl)⟩
end KX
end L2
open PySem PySem.W PyProof.Rows
set_option maxHeartbeats 0 in
theorem PySem.Challenge.cw_keylanes_k39_whole_walks_holds : PySem.Challenge.rw_keylanes_k39_whole_walks.Holds := by
  w_on; o_law; k_head; (case hw => w_witness2)
  k_fill
  refine L2.walk_of (l := PySem.Challenge.rw_keylanes_k39_whole_walks) (n := 63) (k := 6) (x := "_law_script") (CX := fun _ => L2.CX0) (sp := fun w => L2.KX.spLaw _) rfl (by decide) rfl ⟨rfl, by decide, by decide⟩ (fun w h Y => PySem.W.kIn_of Y) ?F (fun _ H a ns hl hO hS => ⟨a, ns, rfl, L2.KX.scr_only hO hS, fun _ => rfl⟩) (fun _ _ _ _ _ h => h)
  case F =>
    intro w mg fa h KX G hmg
    refine' L2.KX.all_mk KX G hmg ?a1 ?l1 ?c1 ?k1 ?a2 ?l2 ?c2 ?k2 ?a3 ?l3 ?c3 ?k3 ?a4 ?l4 ?c4 ?k4 ?a5 ?l5 ?c5 ?k5 ?a6 ?l6 ?c6 ?k6 ?a7 ?l7 ?c7 ?k7 ?a8 ?l8 ?c8 ?k8 ?a9 ?l9 ?c9 ?k9 ?a10 ?l10 ?c10 ?k10 ?a11 ?l11 ?c11 ?k11 ?a12 ?l12 ?c12 ?k12 ?a13 ?l13 ?c13 ?k13 ?a14 ?l14 ?c14 ?k14 ?a15 ?l15 ?c15 ?k15 ?a16 ?l16 ?c16 ?k16 ?a17 ?l17 ?c17 ?k17 ?a18 ?l18 ?c18 ?k18 ?a19 ?l19 ?c19 ?k19 ?a20 ?l20 ?c20 ?k20 ?a21 ?l21 ?c21 ?k21 ?a22 ?l22 ?c22 ?k22 ?a23 ?l23 ?c23 ?k23 ?a24 ?l24 ?c24 ?k24 ?a25 ?l25 ?c25 ?k25 ?a26 ?l26 ?c26 ?k26 ?a27 ?l27 ?c27 ?k27 ?a28 ?l28 ?c28 ?k28 ?a29 ?l29 ?c29 ?k29 ?a30 ?l30 ?c30 ?k30 ?a31 ?l31 ?c31 ?k31 ?hm ?z_isinstance ?z_int ?z_bool ?z_tuple ?z_list ?z_len ?z_enumerate ?z_str ?z_sum ?z_zip ?z_min ?z_max ?z_range ?z_abs
    (case a1 => k_is)
    (case l1 => k_is)
    (case c1 => k_is)
    (case k1 => k_is)
    (case a2 => k_is)
    (case l2 => k_is)
    (case c2 => k_is)
    (case k2 => k_is)
    (case a3 => k_is)
    (case l3 => k_is)
    (case c3 => k_is)
    (case k3 => k_is)
    (case a4 => k_is)
    (case l4 => k_is)
    (case c4 => k_is)
    (case k4 => k_is)
    (case a5 => k_is)
    (case l5 => k_is)
    (case c5 => k_is)
    (case k5 => k_is)
    (case a6 => k_is)
    (case l6 => k_is)
    (case c6 => k_is)
    (case k6 => k_is)
    (case a7 => k_is)
    (case l7 => k_is)
    (case c7 => k_is)
    (case k7 => k_is)
    (case a8 => k_is)
    (case l8 => k_is)
    (case c8 => k_is)
    (case k8 => k_is)
    (case a9 => k_is)
    (case l9 => k_is)
    (case c9 => k_is)
    (case k9 => k_is)
    (case a10 => k_is)
    (case l10 => k_is)
    (case c10 => k_is)
    (case k10 => k_is)
    (case a11 => k_is)
    (case l11 => k_is)
    (case c11 => k_is)
    (case k11 => k_is)
    (case a12 => k_is)
    (case l12 => k_is)
    (case c12 => k_is)
    (case k12 => k_is)
    (case a13 => k_is)
    (case l13 => k_is)
    (case c13 => k_is)
    (case k13 => k_is)
    (case a14 => k_is)
    (case l14 => k_is)
    (case c14 => k_is)
    (case k14 => k_is)
    (case a15 => k_is)
    (case l15 => k_is)
    (case c15 => k_is)
    (case k15 => k_is)
    (case a16 => k_is)
    (case l16 => k_is)
    (case c16 => k_is)
    (case k16 => k_is)
    (case a17 => k_is)
    (case l17 => k_is)
    (case c17 => k_is)
    (case k17 => k_is)
    (case a18 => k_is)
    (case l18 => k_is)
    (case c18 => k_is)
    (case k18 => k_is)
    (case a19 => k_is)
    (case l19 => k_is)
    (case c19 => k_is)
    (case k19 => k_is)
    (case a20 => k_is)
    (case l20 => k_is)
    (case c20 => k_is)
    (case k20 => k_is)
    (case a21 => k_is)
    (case l21 => k_is)
    (case c21 => k_is)
    (case k21 => k_is)
    (case a22 => k_is)
    (case l22 => k_is)
    (case c22 => k_is)
    (case k22 => k_is)
    (case a23 => k_is)
    (case l23 => k_is)
    (case c23 => k_is)
    (case k23 => k_is)
    (case a24 => k_is)
    (case l24 => k_is)
    (case c24 => k_is)
    (case k24 => k_is)
    (case a25 => k_is)
    (case l25 => k_is)
    (case c25 => k_is)
    (case k25 => k_is)
    (case a26 => k_is)
    (case l26 => k_is)
    (case c26 => k_is)
    (case k26 => k_is)
    (case a27 => k_is)
    (case l27 => k_is)
    (case c27 => k_is)
    (case k27 => k_is)
    (case a28 => k_is)
    (case l28 => k_is)
    (case c28 => k_is)
    (case k28 => k_is)
    (case a29 => k_is)
    (case l29 => k_is)
    (case c29 => k_is)
    (case k29 => k_is)
    (case a30 => k_is)
    (case l30 => k_is)
    (case c30 => k_is)
    (case k30 => k_is)
    (case a31 => k_is)
    (case l31 => k_is)
    (case c31 => k_is)
    (case k31 => k_is)
    (case hm => k_is)
    (case z_isinstance => k_is)
    (case z_int => k_is)
    (case z_bool => k_is)
    (case z_tuple => k_is)
    (case z_list => k_is)
    (case z_len => k_is)
    (case z_enumerate => k_is)
    (case z_str => k_is)
    (case z_sum => k_is)
    (case z_zip => k_is)
    (case z_min => k_is)
    (case z_max => k_is)
    (case z_range => k_is)
    (case z_abs => k_is)
