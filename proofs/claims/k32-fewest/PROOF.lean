import PyProof.Rows.All
import Wide.All
import OpenK.AllK
import Wide.FinOn
import HandS.ForMost
import HandS.OwnEq
import HandS.More
import HandS.IsInst
import HandS.Wide
import HandS.TupAny
import HandS.Zip
import HandS.Conv
import HandS.Codes
import HandS.Walk
import HandS.SortOrd
import KE.SortData
import KE.DataMinMax
import KE.DataEq
import KE.KDictKeyed
import KE.KeyNested
import KE.GoesMore
import PyProof.Draws
import PyProof.EnumMake
import PyProof.ReprRoads
import PySem.Challenge.RW_rootstalls_k32_whole_fewest_stalls_struc

section
set_option linter.all false
set_option autoImplicit false
/-! K32A: stalls, what fits, hanging together by closed sets, rings. Plain Lean. -/
namespace K32

structure Stall where
  one : Int
  other : Int
  here : Rat
  beside : Rat
  root : Rat

def Stall.oth (s : Stall) (w : Int) : Int := if s.one = w then s.other else s.one
def Stall.hold (s : Stall) (w : Int) : Rat := if s.one = w then s.here else s.beside
def Stall.Has (s : Stall) (w : Int) : Prop := s.one = w ∨ s.other = w

structure GoodS (n : Int) (s : Stall) : Prop where
  a0 : 0 ≤ s.one
  a1 : s.one < n
  b0 : 0 ≤ s.other
  b1 : s.other < n
  ne : s.one ≠ s.other
  h : 0 < s.here
  b : 0 < s.beside
  r : 0 < s.root
  sq : s.here * s.beside = s.root * s.root

theorem rat_sq {a b : Rat} (ha : 0 < a) (hb : 0 < b) (h : a * a = b * b) : a = b := by
  have h1 : (a - b) * (a + b) = 0 := by grind
  have h2 : a + b ≠ 0 := by grind
  rcases Rat.mul_eq_zero.mp h1 with e | e
  · grind
  · exact absurd e h2
theorem rat_cancel {a b c : Rat} (hc : 0 < c) (h : a * c = b * c) : a = b := by
  have h1 : (a - b) * c = 0 := by grind
  rcases Rat.mul_eq_zero.mp h1 with e | e
  · grind
  · rw [e] at hc
    exact absurd hc (by decide)
theorem rat_div_pos {a b : Rat} (ha : 0 < a) (hb : 0 < b) : 0 < a / b := by
  rw [Rat.div_def]
  exact Rat.mul_pos ha (Rat.inv_pos.2 hb)

/-- the scales s make the stall hold what it holds -/
def FitS (s : Int → Rat) (st : Stall) : Prop := s st.one * st.here = s st.other * st.root
def FitsBy (s : Int → Rat) (S : List Stall) : Prop := (∀ w, 0 < s w) ∧ ∀ st ∈ S, FitS s st
def Fits (S : List Stall) : Prop := ∃ s, FitsBy s S

theorem fits_nil : Fits [] := ⟨fun _ => 1, fun _ => (by decide : (0 : Rat) < 1), fun _ h => by cases h⟩
theorem Fits.mono {S T : List Stall} (h : Fits T) (k : ∀ st ∈ S, st ∈ T) : Fits S := by
  obtain ⟨s, p, q⟩ := h
  exact ⟨s, p, fun st m => q st (k st m)⟩

/-- from either end -/
theorem fitS_iff {n : Int} {s : Int → Rat} {st : Stall} (g : GoodS n st) (p : ∀ w, 0 < s w) : FitS s st ↔ s st.other * st.beside = s st.one * st.root := by
  have := g.h; have := g.b; have := g.r; have := g.sq
  have := p st.one; have := p st.other
  unfold FitS
  constructor
  · intro h
    have e : s st.one * st.here * st.beside = s st.other * st.root * st.beside := by rw [h]
    have e2 : s st.one * (st.root * st.root) = s st.other * st.root * st.beside := by grind
    grind
  · intro h
    have e : s st.other * st.beside * st.here = s st.one * st.root * st.here := by rw [h]
    have e2 : s st.other * (st.root * st.root) = s st.one * st.root * st.here := by grind
    grind
theorem fit_hold {n : Int} {s : Int → Rat} {st : Stall} (g : GoodS n st) (p : ∀ w, 0 < s w) (h : FitS s st) {w : Int} (hw : st.Has w) : s w * st.hold w = s (st.oth w) * st.root := by
  unfold Stall.hold Stall.oth
  rcases hw with e | e
  · subst e
    rw [if_pos rfl, if_pos rfl]
    exact h
  · subst e
    rw [if_neg g.ne, if_neg g.ne]
    exact (fitS_iff g p).mp h
theorem hold_fit {n : Int} {s : Int → Rat} {st : Stall} (g : GoodS n st) (p : ∀ w, 0 < s w) {w : Int} (hw : st.Has w) (h : s w * st.hold w = s (st.oth w) * st.root) : FitS s st := by
  unfold Stall.hold Stall.oth at h
  rcases hw with e | e
  · subst e
    rw [if_pos rfl, if_pos rfl] at h
    exact h
  · subst e
    rw [if_neg g.ne, if_neg g.ne] at h
    exact (fitS_iff g p).mpr h
theorem GoodS.oth_has {n : Int} {st : Stall} (g : GoodS n st) (w : Int) : st.Has (st.oth w) := by
  unfold Stall.oth Stall.Has
  split
  · exact .inr rfl
  · exact .inl rfl
theorem GoodS.oth_ne {n : Int} {st : Stall} (g : GoodS n st) (w : Int) : st.oth w ≠ w := by
  unfold Stall.oth
  split
  · rename_i e
    intro q
    exact g.ne (e.trans q.symm)
  · assumption
theorem GoodS.oth_oth {n : Int} {st : Stall} (g : GoodS n st) {w : Int} (h : st.Has w) : st.oth (st.oth w) = w := by
  unfold Stall.oth
  rcases h with e | e
  · subst e
    rw [if_pos rfl, if_neg g.ne]
  · subst e
    rw [if_neg g.ne, if_pos rfl]
theorem GoodS.oth_rng {n : Int} {st : Stall} (g : GoodS n st) (w : Int) : 0 ≤ st.oth w ∧ st.oth w < n := by
  unfold Stall.oth
  split
  · exact ⟨g.b0, g.b1⟩
  · exact ⟨g.a0, g.a1⟩
theorem GoodS.hold_pos {n : Int} {st : Stall} (g : GoodS n st) (w : Int) : 0 < st.hold w := by
  unfold Stall.hold
  split
  · exact g.h
  · exact g.b
theorem GoodS.has_rng {n : Int} {st : Stall} (g : GoodS n st) {w : Int} (h : st.Has w) : 0 ≤ w ∧ w < n := by
  rcases h with e | e
  · subst e
    exact ⟨g.a0, g.a1⟩
  · subst e
    exact ⟨g.b0, g.b1⟩
theorem GoodS.hold_mul {n : Int} {st : Stall} (g : GoodS n st) {w : Int} (h : st.Has w) : st.hold w * st.hold (st.oth w) = st.root * st.root := by
  have e := g.sq
  unfold Stall.hold Stall.oth
  rcases h with q | q
  · subst q
    rw [if_pos rfl, if_pos rfl, if_neg g.ne]
    exact e
  · subst q
    rw [if_neg g.ne, if_neg g.ne, if_pos rfl]
    rw [Rat.mul_comm]
    exact e
theorem Stall.has_cases {st : Stall} {x w : Int} (h : st.Has x) (hw : st.Has w) (ne : x ≠ w) : x = st.oth w := by
  unfold Stall.oth
  rcases h with e | e <;> rcases hw with q | q
  · exact absurd (e.symm.trans q) ne
  · by_cases z : st.one = w
    · exact absurd (e.symm.trans z) ne
    · rw [if_neg z]; exact e.symm
  · rw [if_pos q]; exact e.symm
  · exact absurd (e.symm.trans q) ne

/-! ### hanging together -/
/-- a set of wares that no stall leaves -/
def Cl (S : List Stall) (C : Int → Prop) : Prop := ∀ st ∈ S, C st.one ↔ C st.other
/-- x and y hang together -/
def Con (S : List Stall) (x y : Int) : Prop := ∀ C, Cl S C → C x → C y
theorem Con.refl (S : List Stall) (x : Int) : Con S x x := fun _ _ h => h
theorem Con.trans {S : List Stall} {x y z : Int} (a : Con S x y) (b : Con S y z) : Con S x z := fun C c h => b C c (a C c h)
theorem Con.symm {S : List Stall} {x y : Int} (a : Con S x y) : Con S y x := fun C c h => by
  apply Classical.byContradiction
  intro n
  exact a (fun z => ¬ C z) (fun st m => not_congr (c st m)) n h
theorem cl_con (S : List Stall) (x : Int) : Cl S (Con S x) := fun st m =>
  ⟨fun h C c k => (c st m).mp (h C c k), fun h C c k => (c st m).mpr (h C c k)⟩
theorem Con.step {S : List Stall} {st : Stall} (m : st ∈ S) {w : Int} (h : st.Has w) : Con S w (st.oth w) := fun C c k => by
  unfold Stall.oth
  rcases h with e | e
  · subst e
    rw [if_pos rfl]
    exact (c st m).mp k
  · subst e
    split
    · rename_i q
      exact k
    · exact (c st m).mpr k
theorem Cl.oth {S : List Stall} {C : Int → Prop} (c : Cl S C) {st : Stall} (m : st ∈ S) {w : Int} (h : st.Has w) (k : C w) : C (st.oth w) := Con.step m h C c k
theorem cl_of {n : Int} {S : List Stall} {C : Int → Prop} (g : ∀ st ∈ S, GoodS n st) (h : ∀ st ∈ S, ∀ w, st.Has w → C w → C (st.oth w)) : Cl S C := fun st m => by
  have ne := (g st m).ne
  constructor
  · intro k
    have q := h st m st.one (.inl rfl) k
    unfold Stall.oth at q
    rw [if_pos rfl] at q
    exact q
  · intro k
    have q := h st m st.other (.inr rfl) k
    unfold Stall.oth at q
    rw [if_neg ne] at q
    exact q
/-- two scales by which stalls fit differ by a factor on what hangs together -/
theorem fits_factor {n : Int} {S : List Stall} {s t : Int → Rat} (g : ∀ st ∈ S, GoodS n st) (a : FitsBy s S) (b : FitsBy t S) {x y : Int} (h : Con S x y) : s x * t y = s y * t x := by
  refine h (fun z => s x * t z = s z * t x) (cl_of g fun st m w hw k => ?_) rfl
  have e1 := fit_hold (g st m) a.1 (a.2 st m) hw
  have e2 := fit_hold (g st m) b.1 (b.2 st m) hw
  have := (g st m).hold_pos w
  have := (g st m).r
  have := a.1 w; have := b.1 w; have := a.1 (st.oth w); have := b.1 (st.oth w)
  generalize s (st.oth w) = so at *
  generalize t (st.oth w) = to at *
  generalize st.hold w = h' at *
  have q : s x * (to * st.root) = (so * st.root) * t x := by
    rw [← e1, ← e2]
    have k' : s x * t w * h' = s w * t x * h' := by rw [k]
    grind
  exact rat_cancel (c := st.root) (by assumption) (by rw [Rat.mul_assoc, q]; grind)
/-- if x and y don't hang together in a web that fits, a stall between them fits too -/
theorem fits_apart {n : Int} {S : List Stall} {k : Stall} (gk : GoodS n k) (h : Fits S) (no : ¬ Con S k.one k.other) : Fits (k :: S) := by
  obtain ⟨s, p, q⟩ := h
  have hk := p k.one; have ho := p k.other
  have c1 := gk.h; have c2 := gk.r
  have lam : 0 < (s k.other * k.root) / (s k.one * k.here) := rat_div_pos (Rat.mul_pos ho c2) (Rat.mul_pos hk c1)
  generalize hl : (s k.other * k.root) / (s k.one * k.here) = l at lam
  have dec : ∀ w, Decidable (Con S k.one w) := fun w => Classical.propDecidable _
  refine ⟨fun w => if Con S k.one w then s w * l else s w, fun w => ?_, fun st m => ?_⟩
  · show 0 < (if Con S k.one w then s w * l else s w)
    split
    · exact Rat.mul_pos (p w) lam
    · exact p w
  · show (if Con S k.one st.one then s st.one * l else s st.one) * st.here = (if Con S k.one st.other then s st.other * l else s st.other) * st.root
    rcases List.mem_cons.mp m with e | m
    · subst e
      rw [if_pos (Con.refl _ _), if_neg no, ← hl]
      grind
    · have e := q st m
      unfold FitS at e
      by_cases z : Con S k.one st.one
      · rw [if_pos z, if_pos ((cl_con S k.one st m).mp z)]
        grind
      · rw [if_neg z, if_neg fun y => z ((cl_con S k.one st m).mpr y)]
        exact e
end K32
end

section
set_option linter.all false
set_option autoImplicit false
/-! K32B: ways and rings in a web. Plain Lean. -/
namespace K32

abbrev Way := List (Int × Int)
def stAt (S : List Stall) (e : Int) : Option Stall := if 0 ≤ e then S[e.toNat]? else none
theorem stAt_nat (S : List Stall) (i : Nat) : stAt S (i : Int) = S[i]? := by
  unfold stAt
  rw [if_pos (by omega), Int.toNat_natCast]
theorem stAt_rng {S : List Stall} {e : Int} {st : Stall} (h : stAt S e = some st) : 0 ≤ e ∧ e < S.length ∧ st ∈ S := by
  unfold stAt at h
  split at h
  · have q := List.getElem?_eq_some_iff.mp h
    obtain ⟨l, q⟩ := q
    exact ⟨by assumption, by omega, by rw [← q]; exact List.getElem_mem l⟩
  · cases h
theorem stAt_of {S : List Stall} {e : Int} (h0 : 0 ≤ e) (h1 : e < S.length) : ∃ st, stAt S e = some st := by
  unfold stAt
  rw [if_pos h0]
  have l : e.toNat < S.length := by omega
  exact ⟨_, List.getElem?_eq_getElem l⟩

/-- the stalls gone along one behind another -/
def Path (S : List Stall) : Int → Way → Int → Prop
  | w, [], w' => w = w'
  | w, (e, v) :: r, w' => v = w ∧ ∃ st, stAt S e = some st ∧ st.Has w ∧ Path S (st.oth w) r w'
theorem path_append {S : List Stall} : ∀ {a b : Way} {w w' : Int}, Path S w (a ++ b) w' ↔ ∃ m, Path S w a m ∧ Path S m b w'
  | [], b, w, w' => by
    constructor
    · intro h
      exact ⟨w, rfl, h⟩
    · rintro ⟨m, e, h⟩
      cases e
      exact h
  | (e, v) :: a, b, w, w' => by
    constructor
    · rintro ⟨ev, st, h1, h2, h3⟩
      obtain ⟨m, h4, h5⟩ := path_append.mp h3
      exact ⟨m, ⟨ev, st, h1, h2, h4⟩, h5⟩
    · rintro ⟨m, ⟨ev, st, h1, h2, h4⟩, h5⟩
      exact ⟨ev, st, h1, h2, path_append.mpr ⟨m, h4, h5⟩⟩
theorem path_end {S : List Stall} : ∀ {a : Way} {w u v : Int}, Path S w a u → Path S w a v → u = v
  | [], w, u, v, h, k => h.symm.trans k
  | (e, x) :: a, w, u, v, ⟨_, st, h1, _, h3⟩, ⟨_, st', k1, _, k3⟩ => by
    rw [h1] at k1
    cases k1
    exact path_end h3 k3
theorem path_mem {S : List Stall} : ∀ {a : Way} {w u : Int} {p : Int × Int}, Path S w a u → p ∈ a → ∃ st, stAt S p.1 = some st ∧ st.Has p.2
  | [], _, _, _, _, m => by cases m
  | (e, x) :: a, w, u, p, ⟨e1, st, h1, h2, h3⟩, m => by
    rcases List.mem_cons.mp m with q | m
    · subst q
      refine ⟨st, h1, ?_⟩
      show st.Has x
      rw [e1]
      exact h2
    · exact path_mem h3 m
theorem path_head {S : List Stall} {a : Way} {w u : Int} {p : Int × Int} (h : Path S w (p :: a) u) : p.2 = w := h.1

/-- the pair the other way round -/
def turn1 (S : List Stall) (p : Int × Int) : Int × Int := match stAt S p.1 with
  | some st => (p.1, st.oth p.2)
  | none => p
theorem turn1_fst (S : List Stall) (p : Int × Int) : (turn1 S p).1 = p.1 := by
  unfold turn1
  split <;> rfl
theorem turn1_at {S : List Stall} {p : Int × Int} {st : Stall} (h : stAt S p.1 = some st) : turn1 S p = (p.1, st.oth p.2) := by
  unfold turn1
  rw [h]
def turned (S : List Stall) (r : Way) : Way := r.reverse.map (turn1 S)

/-- all stalls are right ones -/
abbrev Good (n : Int) (S : List Stall) : Prop := ∀ st ∈ S, GoodS n st

theorem path_turn {n : Int} {S : List Stall} (g : Good n S) : ∀ {a : Way} {w u : Int}, Path S w a u → Path S u (turned S a) w
  | [], w, u, h => h.symm
  | (e, x) :: a, w, u, ⟨e1, st, h1, h2, h3⟩ => by
    have ih := path_turn g h3
    subst e1
    unfold turned at ih ⊢
    rw [List.reverse_cons, List.map_append]
    refine path_append.mpr ⟨_, ih, ?_⟩
    rw [List.map_singleton, turn1_at h1]
    have gs := g st (stAt_rng h1).2.2
    exact ⟨rfl, st, h1, gs.oth_has _, gs.oth_oth h2⟩

/-! ### what is held along a way -/
def h1 (S : List Stall) (p : Int × Int) : Rat := match stAt S p.1 with
  | some st => st.hold p.2
  | none => 1
def h2 (S : List Stall) (p : Int × Int) : Rat := match stAt S p.1 with
  | some st => st.hold (st.oth p.2)
  | none => 1
def pr (f : Int × Int → Rat) : Way → Rat
  | [] => 1
  | p :: r => f p * pr f r
theorem pr_append (f : Int × Int → Rat) : ∀ (a b : Way), pr f (a ++ b) = pr f a * pr f b
  | [], b => by
    show pr f b = 1 * pr f b
    grind
  | p :: a, b => by
    show f p * pr f (a ++ b) = f p * pr f a * pr f b
    rw [pr_append f a b]
    grind
theorem pr_swap (f : Int × Int → Rat) (a b : Way) : pr f (a ++ b) = pr f (b ++ a) := by
  rw [pr_append, pr_append]
  grind
theorem pr_map {f : Int × Int → Rat} {g : Int × Int → Int × Int} {h : Int × Int → Rat} : ∀ {a : Way}, (∀ p ∈ a, f (g p) = h p) → pr f (a.map g) = pr h a
  | [], _ => rfl
  | p :: a, e => by
    show f (g p) * pr f (a.map g) = h p * pr h a
    rw [e p List.mem_cons_self, pr_map fun q m => e q (List.mem_cons_of_mem _ m)]
theorem pr_rev (f : Int × Int → Rat) : ∀ (a : Way), pr f a.reverse = pr f a
  | [] => rfl
  | p :: a => by
    rw [List.reverse_cons, pr_append, pr_rev f a]
    show pr f a * (f p * 1) = f p * pr f a
    grind
theorem pr_pos {f : Int × Int → Rat} : ∀ {a : Way}, (∀ p ∈ a, 0 < f p) → 0 < pr f a
  | [], _ => (by decide : (0 : Rat) < 1)
  | p :: a, e => Rat.mul_pos (e p List.mem_cons_self) (pr_pos fun q m => e q (List.mem_cons_of_mem _ m))
def Uneven (S : List Stall) (r : Way) : Prop := pr (h1 S) r ≠ pr (h2 S) r
theorem h1_at {S : List Stall} {p : Int × Int} {st : Stall} (h : stAt S p.1 = some st) : h1 S p = st.hold p.2 := by
  unfold h1
  rw [h]
theorem h2_at {S : List Stall} {p : Int × Int} {st : Stall} (h : stAt S p.1 = some st) : h2 S p = st.hold (st.oth p.2) := by
  unfold h2
  rw [h]
theorem h_pos {n : Int} {S : List Stall} (g : Good n S) (p : Int × Int) : 0 < h1 S p ∧ 0 < h2 S p := by
  unfold h1 h2
  cases e : stAt S p.1 with
  | none => exact ⟨(by decide : (0 : Rat) < 1), (by decide : (0 : Rat) < 1)⟩
  | some st =>
    have gs := g st (stAt_rng e).2.2
    exact ⟨gs.hold_pos _, gs.hold_pos _⟩
theorem uneven_swap {S : List Stall} {a b : Way} : Uneven S (a ++ b) ↔ Uneven S (b ++ a) := by
  unfold Uneven
  rw [pr_swap (h1 S) a b, pr_swap (h2 S) a b]
theorem uneven_turn {n : Int} {S : List Stall} (g : Good n S) {r : Way} {w u : Int} (h : Path S w r u) : Uneven S (turned S r) ↔ Uneven S r := by
  have e1 : pr (h1 S) (turned S r) = pr (h2 S) r := by
    unfold turned
    rw [pr_map (h := h2 S), pr_rev]
    intro p m
    obtain ⟨st, k1, k2⟩ := path_mem h (List.mem_reverse.mp m)
    rw [turn1_at k1, h1_at (p := (p.1, st.oth p.2)) (st := st) k1, h2_at k1]
  have e2 : pr (h2 S) (turned S r) = pr (h1 S) r := by
    unfold turned
    rw [pr_map (h := h1 S), pr_rev]
    intro p m
    obtain ⟨st, k1, k2⟩ := path_mem h (List.mem_reverse.mp m)
    rw [turn1_at k1, h2_at (p := (p.1, st.oth p.2)) (st := st) k1, h1_at k1]
    show st.hold (st.oth (st.oth p.2)) = st.hold p.2
    rw [(g st (stAt_rng k1).2.2).oth_oth k2]
  unfold Uneven
  rw [e1, e2]
  exact ⟨fun h q => h q.symm, fun h q => h q.symm⟩
/-- along stalls that fit -/
theorem path_fit {n : Int} {S : List Stall} (g : Good n S) {s : Int → Rat} (p : ∀ w, 0 < s w) : ∀ {r : Way} {w u : Int}, Path S w r u → (∀ q ∈ r, ∀ st, stAt S q.1 = some st → FitS s st) → pr (h1 S) r * (s w * s w) = pr (h2 S) r * (s u * s u)
  | [], w, u, h, _ => by
    cases h
    rfl
  | (e, x) :: a, w, u, ⟨e1, st, k1, k2, k3⟩, f => by
    have ih := path_fit g p k3 fun q m => f q (List.mem_cons_of_mem _ m)
    subst e1
    have gs := g st (stAt_rng k1).2.2
    have ft := f (e, x) List.mem_cons_self st k1
    have q1 := fit_hold gs p ft k2
    have q2 := fit_hold gs p ft (gs.oth_has x)
    rw [gs.oth_oth k2] at q2
    show h1 S (e, x) * pr (h1 S) a * (s x * s x) = h2 S (e, x) * pr (h2 S) a * (s u * s u)
    rw [h1_at (p := (e, x)) k1, h2_at (p := (e, x)) k1]
    show st.hold x * pr (h1 S) a * (s x * s x) = st.hold (st.oth x) * pr (h2 S) a * (s u * s u)
    grind
theorem ring_even {n : Int} {S : List Stall} (g : Good n S) {s : Int → Rat} (p : ∀ w, 0 < s w) {r : Way} {w : Int} (h : Path S w r w) (f : ∀ q ∈ r, ∀ st, stAt S q.1 = some st → FitS s st) : ¬ Uneven S r := fun u =>
  u (rat_cancel (Rat.mul_pos (p w) (p w)) (path_fit g p h f))

/-! ### rings -/
structure Ring (S : List Stall) (r : Way) : Prop where
  ne : r ≠ []
  nd : (r.map (·.1)).Nodup
  cl : ∃ w, Path S w r w
/-- .. that come by no ware twice -/
structure SRing (S : List Stall) (r : Way) : Prop extends Ring S r where
  sp : (r.map (·.2)).Nodup
theorem Ring.swap {S : List Stall} {a b : Way} (h : Ring S (a ++ b)) : Ring S (b ++ a) := by
  obtain ⟨ne, nd, w, cl⟩ := h
  refine ⟨fun e => ne ?_, ?_, ?_⟩
  · obtain ⟨e1, e2⟩ := List.append_eq_nil_iff.mp e
    rw [e1, e2]
    rfl
  · rw [List.map_append] at nd ⊢
    exact (List.perm_append_comm.nodup_iff).mp nd
  · obtain ⟨m, k1, k2⟩ := path_append.mp cl
    exact ⟨m, path_append.mpr ⟨w, k2, k1⟩⟩
theorem SRing.swap {S : List Stall} {a b : Way} (h : SRing S (a ++ b)) : SRing S (b ++ a) := by
  refine ⟨h.toRing.swap, ?_⟩
  have sp := h.sp
  rw [List.map_append] at sp ⊢
  exact (List.perm_append_comm.nodup_iff).mp sp
theorem turned_fst (S : List Stall) (r : Way) : (turned S r).map (·.1) = (r.map (·.1)).reverse := by
  unfold turned
  rw [List.map_map, List.map_reverse]
  congr 1
  exact List.map_congr_left fun p _ => turn1_fst S p
theorem Ring.turn {n : Int} {S : List Stall} (g : Good n S) {r : Way} (h : Ring S r) : Ring S (turned S r) := by
  obtain ⟨ne, nd, w, cl⟩ := h
  refine ⟨fun e => ne ?_, ?_, w, path_turn g cl⟩
  · have q := congrArg List.length e
    unfold turned at q
    rw [List.length_map, List.length_reverse] at q
    exact List.length_eq_zero_iff.mp q
  · rw [turned_fst]
    exact (List.reverse_perm _).nodup_iff.mpr nd
/-- the wares that a way goes to are, behind its first one, those that it goes from -/
theorem path_to {S : List Stall} : ∀ {r : Way} {w u : Int}, Path S w r u → w :: (r.map (turn1 S)).map (·.2) = r.map (·.2) ++ [u]
  | [], w, u, h => by
    cases h
    rfl
  | (e, x) :: a, w, u, ⟨e1, st, k1, k2, k3⟩ => by
    have ih := path_to k3
    subst e1
    show x :: (turn1 S (e, x)).2 :: (a.map (turn1 S)).map (·.2) = x :: (a.map (·.2) ++ [u])
    rw [turn1_at (p := (e, x)) k1]
    show x :: st.oth x :: (a.map (turn1 S)).map (·.2) = x :: (a.map (·.2) ++ [u])
    rw [ih]
theorem SRing.turn {n : Int} {S : List Stall} (g : Good n S) {r : Way} (h : SRing S r) : SRing S (turned S r) := by
  refine ⟨h.toRing.turn g, ?_⟩
  obtain ⟨w, cl⟩ := h.cl
  have e := path_to cl
  obtain ⟨p, r', rfl⟩ := List.exists_cons_of_ne_nil h.ne
  have sp := h.sp
  have hw := path_head cl
  rw [List.map_cons, List.map_cons (f := fun x : Int × Int => x.2), List.map_cons (f := fun x : Int × Int => x.2), hw] at e
  rw [List.map_cons, hw] at sp
  have e2 : ((p :: r').map (turn1 S)).map (·.2) = r'.map (·.2) ++ [w] := by
    injection e
  unfold turned
  rw [List.map_reverse, List.map_reverse, e2]
  refine (List.reverse_perm _).nodup_iff.mpr ?_
  exact (List.perm_append_comm (l₁ := [w]) (l₂ := r'.map (fun x : Int × Int => x.2))).nodup_iff.mp sp
end K32
end

section
set_option linter.all false
set_option autoImplicit false
/-! K32C: simple rings: told by their stalls; the least way to tell one; at most 128 of eight stalls. Plain Lean. -/
namespace K32

theorem inj_of_nodup {α β : Type} {f : α → β} : ∀ {l : List α} {x y : α}, (l.map f).Nodup → x ∈ l → y ∈ l → f x = f y → x = y
  | [], _, _, _, m, _, _ => by cases m
  | a :: l, x, y, nd, mx, my, e => by
    obtain ⟨n1, n2⟩ := List.nodup_cons.mp (show (f a :: l.map f).Nodup from nd)
    rcases List.mem_cons.mp mx with qx | qx <;> rcases List.mem_cons.mp my with qy | qy
    · rw [qx, qy]
    · exact absurd (List.mem_map.mpr ⟨y, qy, (e.symm.trans (congrArg f qx))⟩) n1
    · exact absurd (List.mem_map.mpr ⟨x, qx, (e.trans (congrArg f qy))⟩) n1
    · exact inj_of_nodup n2 qx qy e
theorem snoc_of {α : Type} {l : List α} (h : l ≠ []) : ∃ c z, l = c ++ [z] := ⟨l.dropLast, l.getLast h, (List.dropLast_concat_getLast h).symm⟩

abbrev edges (r : Way) : List Int := r.map (·.1)
abbrev wares (r : Way) : List Int := r.map (·.2)

theorem SRing.to_nd {S : List Stall} {r : Way} (h : SRing S r) : (r.map fun p => (turn1 S p).2).Nodup := by
  obtain ⟨w, cl⟩ := h.cl
  have e := path_to cl
  obtain ⟨p, r', rfl⟩ := List.exists_cons_of_ne_nil h.ne
  have sp := h.sp
  have hw := path_head cl
  rw [List.map_cons, List.map_cons (f := fun x : Int × Int => x.2), List.map_cons (f := fun x : Int × Int => x.2), hw] at e
  rw [List.map_cons, hw] at sp
  have e2 : ((p :: r').map (turn1 S)).map (·.2) = r'.map (·.2) ++ [w] := by
    injection e
  have e3 : ((p :: r').map fun p => (turn1 S p).2) = r'.map (·.2) ++ [w] := by
    rw [← e2, List.map_map]
    rfl
  rw [e3]
  exact (List.perm_append_comm (l₁ := [w]) (l₂ := r'.map (fun x : Int × Int => x.2))).nodup_iff.mp sp
/-- a stall of the ring at a ware that one pair goes from and another goes to is one of both -/
theorem SRing.at {n : Int} {S : List Stall} (g : Good n S) {r : Way} (h : SRing S r) {p l y : Int × Int} (mp : p ∈ r) (ml : l ∈ r) (my : y ∈ r) (e : (turn1 S l).2 = p.2) {st : Stall} (hs : stAt S y.1 = some st) (hv : st.Has p.2) : y = p ∨ y = l := by
  by_cases q : y.2 = p.2
  · exact .inl (inj_of_nodup h.sp my mp q)
  · refine .inr (inj_of_nodup h.to_nd my ml ?_)
    obtain ⟨w, cl⟩ := h.cl
    obtain ⟨st', k1, k2⟩ := path_mem cl my
    rw [hs] at k1
    cases k1
    show (turn1 S y).2 = (turn1 S l).2
    rw [e, turn1_at hs]
    exact (Stall.has_cases hv k2 (fun z => q z.symm)).symm
theorem ring_det {n : Int} {S : List Stall} (g : Good n S) : ∀ (a a' c : Way), c ≠ [] → SRing S (c ++ a) → SRing S (c ++ a') → (∀ x, x ∈ edges (c ++ a) ↔ x ∈ edges (c ++ a')) → a = a'
  | [], [], c, _, _, _, _ => rfl
  | [], q :: b, c, _, h, h', s => by
    have m : q.1 ∈ edges (c ++ []) := (s q.1).mpr (by simp)
    have nd := h'.nd
    rw [List.append_nil] at m
    rw [List.map_append, List.nodup_append] at nd
    exact absurd rfl (nd.2.2 q.1 m q.1 (by simp))
  | q :: b, [], c, _, h, h', s => by
    have m : q.1 ∈ edges (c ++ []) := (s q.1).mp (by simp)
    have nd := h.nd
    rw [List.append_nil] at m
    rw [List.map_append, List.nodup_append] at nd
    exact absurd rfl (nd.2.2 q.1 m q.1 (by simp))
  | q :: b, q' :: b', c, hc, h, h', s => by
    have key : q = q' := by
      obtain ⟨c0, l, rfl⟩ : ∃ c0 l, c = c0 ++ [l] := snoc_of hc
      obtain ⟨w, cl⟩ := h.cl
      obtain ⟨w', cl'⟩ := h'.cl
      obtain ⟨m, k1, k2⟩ := path_append.mp cl
      obtain ⟨m', k1', k2'⟩ := path_append.mp cl'
      -- both begin alike
      obtain ⟨m2, k3, k4⟩ := path_append.mp k1
      obtain ⟨m2', k3', k4'⟩ := path_append.mp k1'
      obtain ⟨e1, st, f1, f2, f3⟩ := (show Path S m2 [(l.1, l.2)] m from k4)
      obtain ⟨e1', st', f1', f2', f3'⟩ := (show Path S m2' [(l.1, l.2)] m' from k4')
      rw [f1] at f1'
      cases f1'
      have f4 : st.oth l.2 = m := by rw [e1]; exact f3
      have f4' : st.oth l.2 = m' := by rw [e1']; exact f3'
      have em : m = m' := f4.symm.trans f4'
      subst em
      have hq : q.2 = m := path_head k2
      have hq' : q'.2 = m := path_head k2'
      obtain ⟨s2, i1, i2⟩ := path_mem cl' (p := q') (by simp)
      have mm : q'.1 ∈ edges ((c0 ++ [l]) ++ q :: b) := (s q'.1).mpr (by simp)
      obtain ⟨y, my, ey⟩ := List.mem_map.mp mm
      rw [hq'] at i2
      rcases SRing.at g h (p := q) (l := l) (y := y) (by simp) (by simp) my (by rw [turn1_at f1, hq]; exact f4) (by rw [ey]; exact i1) (by rw [hq]; exact i2) with z | z
      · subst z
        exact Prod.ext ey (hq.trans hq'.symm)
      · exfalso
        subst z
        have nd := h'.nd
        rw [List.map_append, List.nodup_append] at nd
        exact absurd ey (nd.2.2 y.1 (by simp) q'.1 (by simp))
    subst key
    have e : c ++ q :: b = (c ++ [q]) ++ b := by simp
    have e' : c ++ q :: b' = (c ++ [q]) ++ b' := by simp
    rw [e] at h s
    rw [e'] at h' s
    rw [ring_det g b b' (c ++ [q]) (by simp) h h' s]
/-- a ring's last pair goes to the ware that its first one goes from -/
theorem ring_last {n : Int} {S : List Stall} (g : Good n S) {z : Int × Int} {t : Way} (h : SRing S (z :: t)) : ∃ l ∈ t, (turn1 S l).2 = z.2 := by
  obtain ⟨w, cl⟩ := h.cl
  have hz := path_head cl
  obtain ⟨e1, st, k1, k2, k3⟩ := (show Path S w ((z.1, z.2) :: t) w from cl)
  by_cases ht : t = []
  · subst ht
    exact absurd (show st.oth w = w from k3) ((g st (stAt_rng k1).2.2).oth_ne w)
  · obtain ⟨c, l, rfl⟩ := snoc_of ht
    obtain ⟨m, i1, i2⟩ := path_append.mp k3
    obtain ⟨e2, st2, j1, j2, j3⟩ := (show Path S m [(l.1, l.2)] w from i2)
    refine ⟨l, by simp, ?_⟩
    rw [turn1_at j1, hz]
    show st2.oth l.2 = w
    rw [e2]
    exact j3
/-- turned to begin with a pair of its own -/
theorem SRing.from {S : List Stall} {r : Way} (h : SRing S r) {z : Int × Int} (m : z ∈ r) : ∃ a b, r = a ++ z :: b ∧ SRing S (z :: (b ++ a)) := by
  obtain ⟨a, b, e⟩ := List.append_of_mem m
  subst e
  exact ⟨a, b, rfl, h.swap⟩
theorem edges_swap {a b : Way} {x : Int} : x ∈ edges (a ++ b) ↔ x ∈ edges (b ++ a) := by
  show x ∈ (a ++ b).map (·.1) ↔ x ∈ (b ++ a).map (·.1)
  rw [List.map_append, List.map_append, List.mem_append, List.mem_append]
  exact Or.comm
theorem edges_turned {S : List Stall} {r : Way} {x : Int} : x ∈ edges (turned S r) ↔ x ∈ edges r := by
  show x ∈ (turned S r).map (·.1) ↔ x ∈ r.map (·.1)
  rw [turned_fst, List.mem_reverse]
/-- a ring's stalls without one of them are no ring's stalls -/
theorem ring_parity {n : Int} {S : List Stall} (g : Good n S) {K K' : Way} (h : SRing S K) (h' : SRing S K') {z : Int} (hz : z ∈ edges K) (nz : z ∉ edges K') (s : ∀ x, x ≠ z → (x ∈ edges K ↔ x ∈ edges K')) : False := by
  obtain ⟨p, mp, rfl⟩ := List.mem_map.mp hz
  obtain ⟨a, b, rfl, hr⟩ := h.from mp
  obtain ⟨l, ml, el⟩ := ring_last g hr
  have se : ∀ x, x ∈ edges (a ++ p :: b) ↔ x ∈ edges (p :: (b ++ a)) := fun x => edges_swap (a := a) (b := p :: b)
  have nd : p.1 ∉ (b ++ a).map (·.1) := (List.nodup_cons.mp (show (p.1 :: (b ++ a).map (·.1)).Nodup from hr.nd)).1
  have nl : l.1 ≠ p.1 := fun q => nd (by rw [← q]; exact List.mem_map.mpr ⟨l, ml, rfl⟩)
  have ml' : l.1 ∈ edges K' := (s l.1 nl).mp ((se l.1).mpr (List.mem_map.mpr ⟨l, List.mem_cons_of_mem _ ml, rfl⟩))
  obtain ⟨w, cl⟩ := hr.cl
  obtain ⟨sl, i1, i2⟩ := path_mem cl (List.mem_cons_of_mem p ml)
  have hl : sl.Has p.2 := by
    rw [turn1_at i1] at el
    rw [← el]
    exact (g sl (stAt_rng i1).2.2).oth_has _
  -- a ring with K's stalls that has (l.1, p.2) in it
  obtain ⟨K2, h2, s2, m2⟩ : ∃ K2, SRing S K2 ∧ (∀ x, x ∈ edges K2 ↔ x ∈ edges K') ∧ (l.1, p.2) ∈ K2 := by
    obtain ⟨y, my, ey⟩ := List.mem_map.mp ml'
    by_cases q : y.2 = p.2
    · exact ⟨K', h', fun _ => Iff.rfl, by
        have e : y = (l.1, p.2) := Prod.ext ey q
        rw [← e]
        exact my⟩
    · refine ⟨turned S K', h'.turn g, fun x => edges_turned, ?_⟩
      obtain ⟨w', cl'⟩ := h'.cl
      obtain ⟨sy, j1, j2⟩ := path_mem cl' my
      have e1 : sy = sl := by
        rw [ey, i1] at j1
        cases j1
        rfl
      subst e1
      refine List.mem_map.mpr ⟨y, List.mem_reverse.mpr my, ?_⟩
      rw [turn1_at j1]
      exact Prod.ext ey (Stall.has_cases hl j2 fun z => q z.symm).symm
  obtain ⟨a2, b2, rfl, hr2⟩ := h2.from m2
  obtain ⟨m, mm, em⟩ := ring_last g hr2
  have nd2 : l.1 ∉ (b2 ++ a2).map (·.1) := (List.nodup_cons.mp (show (l.1 :: (b2 ++ a2).map (·.1)).Nodup from hr2.nd)).1
  have nm : m.1 ≠ l.1 := fun q => nd2 (by rw [← q]; exact List.mem_map.mpr ⟨m, mm, rfl⟩)
  have m3 : m.1 ∈ edges K' := (s2 m.1).mp ((edges_swap (a := a2) (b := (l.1, p.2) :: b2)).mpr (List.mem_map.mpr ⟨m, List.mem_cons_of_mem _ mm, rfl⟩))
  have nmz : m.1 ≠ p.1 := fun q => nz (by rw [← q]; exact m3)
  have m4 : m.1 ∈ edges (p :: (b ++ a)) := (se m.1).mp ((s m.1 nmz).mpr m3)
  obtain ⟨w2, cl2⟩ := hr2.cl
  obtain ⟨sm, o1, o2⟩ := path_mem cl2 (List.mem_cons_of_mem (l.1, p.2) mm)
  have hm : sm.Has p.2 := by
    rw [turn1_at o1] at em
    rw [← em]
    exact (g sm (stAt_rng o1).2.2).oth_has _
  obtain ⟨y, my, ey⟩ := List.mem_map.mp m4
  rcases SRing.at g hr (p := p) (l := l) (y := y) List.mem_cons_self (List.mem_cons_of_mem _ ml) my el (by rw [ey]; exact o1) hm with q | q
  · exact nmz (by rw [← ey, q])
  · exact nm (by rw [← ey, q])

/-! ### the least way to tell a ring -/
structure Canon (S : List Stall) (K : Way) : Prop extends SRing S K where
  hd : ∃ e w t st, K = (e, w) :: t ∧ stAt S e = some st ∧ (∀ x ∈ edges K, e ≤ x) ∧ w ≤ st.oth w
theorem canon_unique {n : Int} {S : List Stall} (g : Good n S) {K K' : Way} (h : Canon S K) (h' : Canon S K') (s : ∀ x, x ∈ edges K ↔ x ∈ edges K') : K = K' := by
  obtain ⟨e, w, t, st, rfl, k1, k2, k3⟩ := h.hd
  obtain ⟨e', w', t', st', rfl, k1', k2', k3'⟩ := h'.hd
  have i1 : e ≤ e' := k2 e' ((s e').mpr (List.mem_map.mpr ⟨(e', w'), List.mem_cons_self, rfl⟩))
  have i2 : e' ≤ e := k2' e ((s e).mp (List.mem_map.mpr ⟨(e, w), List.mem_cons_self, rfl⟩))
  have ee : e = e' := Int.le_antisymm i1 i2
  subst ee
  rw [k1] at k1'
  cases k1'
  have gs := g st (stAt_rng k1).2.2
  obtain ⟨u, cl⟩ := h.cl
  obtain ⟨u', cl'⟩ := h'.cl
  obtain ⟨z1, j1, j2⟩ := path_mem cl (p := (e, w)) List.mem_cons_self
  obtain ⟨z2, j1', j2'⟩ := path_mem cl' (p := (e, w')) List.mem_cons_self
  have y1 : z1 = st := by
    have q : stAt S e = some z1 := j1
    rw [k1] at q
    exact (Option.some.inj q).symm
  have y2 : z2 = st := by
    have q : stAt S e = some z2 := j1'
    rw [k1] at q
    exact (Option.some.inj q).symm
  rw [y1] at j2
  rw [y2] at j2'
  have ww : w = w' := by
    by_cases q : w = w'
    · exact q
    · have r1 : w = st.oth w' := Stall.has_cases j2 j2' q
      have r2 : w' = st.oth w := Stall.has_cases j2' j2 fun z => q z.symm
      rw [← r1] at k3'
      rw [← r2] at k3
      exact Int.le_antisymm k3 k3'
  subst ww
  rw [ring_det g t t' [(e, w)] (by simp) h.toSRing h'.toSRing s]

def bitE (K : Way) (i : Int) : Nat := if i ∈ edges K then 1 else 0
def code (K : Way) : Nat := bitE K 1 + 2 * bitE K 2 + 4 * bitE K 3 + 8 * bitE K 4 + 16 * bitE K 5 + 32 * bitE K 6 + 64 * bitE K 7
theorem bitE_le (K : Way) (i : Int) : bitE K i ≤ 1 := by
  unfold bitE
  split <;> omega
theorem bitE_iff {K K' : Way} {i : Int} (h : bitE K i = bitE K' i) : i ∈ edges K ↔ i ∈ edges K' := by
  unfold bitE at h
  by_cases a : i ∈ edges K <;> by_cases b : i ∈ edges K'
  · exact ⟨fun _ => b, fun _ => a⟩
  · rw [if_pos a, if_neg b] at h
    cases h
  · rw [if_neg a, if_pos b] at h
    cases h
  · exact ⟨fun z => absurd z a, fun z => absurd z b⟩
theorem code_lt (K : Way) : code K < 128 := by
  have := bitE_le K 1; have := bitE_le K 2; have := bitE_le K 3; have := bitE_le K 4; have := bitE_le K 5; have := bitE_le K 6; have := bitE_le K 7
  unfold code
  omega
theorem code_inj {n : Int} {S : List Stall} (g : Good n S) (h8 : S.length ≤ 8) {K K' : Way} (h : Canon S K) (h' : Canon S K') (e : code K = code K') : K = K' := by
  have i1 := bitE_le K 1; have i2 := bitE_le K 2; have i3 := bitE_le K 3; have i4 := bitE_le K 4; have i5 := bitE_le K 5; have i6 := bitE_le K 6; have i7 := bitE_le K 7
  have j1 := bitE_le K' 1; have j2 := bitE_le K' 2; have j3 := bitE_le K' 3; have j4 := bitE_le K' 4; have j5 := bitE_le K' 5; have j6 := bitE_le K' 6; have j7 := bitE_le K' 7
  unfold code at e
  have rng : ∀ {R : Way}, SRing S R → ∀ x ∈ edges R, 0 ≤ x ∧ x < 8 := fun {R} hR x m => by
    obtain ⟨p, mp, rfl⟩ := List.mem_map.mp m
    obtain ⟨w, cl⟩ := hR.cl
    obtain ⟨st, k1, _⟩ := path_mem cl mp
    have := stAt_rng k1
    omega
  have s : ∀ x, x ≠ 0 → (x ∈ edges K ↔ x ∈ edges K') := fun x hx => by
    by_cases hr : 0 ≤ x ∧ x < 8
    · have c : x = 1 ∨ x = 2 ∨ x = 3 ∨ x = 4 ∨ x = 5 ∨ x = 6 ∨ x = 7 := by omega
      rcases c with rfl | rfl | rfl | rfl | rfl | rfl | rfl <;> exact bitE_iff (by omega)
    · exact ⟨fun m => absurd (rng h.toSRing x m) hr, fun m => absurd (rng h'.toSRing x m) hr⟩
  by_cases a : (0 : Int) ∈ edges K <;> by_cases b : (0 : Int) ∈ edges K'
  · refine canon_unique g h h' fun x => ?_
    by_cases q : x = 0
    · subst q
      exact ⟨fun _ => b, fun _ => a⟩
    · exact s x q
  · exact (ring_parity g h.toSRing h'.toSRing a b s).elim
  · exact (ring_parity g h'.toSRing h.toSRing b a fun x q => (s x q).symm).elim
  · refine canon_unique g h h' fun x => ?_
    by_cases q : x = 0
    · subst q
      exact ⟨fun z => absurd z a, fun z => absurd z b⟩
    · exact s x q
theorem nodup_map {α β : Type} {f : α → β} : ∀ {l : List α}, l.Nodup → (∀ x ∈ l, ∀ y ∈ l, f x = f y → x = y) → (l.map f).Nodup
  | [], _, _ => List.nodup_nil
  | a :: l, nd, h => by
    obtain ⟨n1, n2⟩ := List.nodup_cons.mp nd
    refine List.nodup_cons.mpr ⟨fun m => ?_, nodup_map n2 fun x mx y my => h x (List.mem_cons_of_mem _ mx) y (List.mem_cons_of_mem _ my)⟩
    obtain ⟨y, my, e⟩ := List.mem_map.mp m
    exact n1 (by rw [← h y (List.mem_cons_of_mem _ my) a List.mem_cons_self e]; exact my)
theorem canon_count {n : Int} {S : List Stall} (g : Good n S) (h8 : S.length ≤ 8) {L : List Way} (nd : L.Nodup) (h : ∀ K ∈ L, Canon S K) : L.length ≤ 128 := by
  have h1 := nodup_map (f := code) nd fun x mx y my e => code_inj g h8 (h x mx) (h y my) e
  have h2 : (L.map code) ⊆ List.range 128 := fun x m => by
    obtain ⟨K, _, rfl⟩ := List.mem_map.mp m
    exact List.mem_range.mpr (code_lt K)
  have h3 := h1.length_le_of_subset h2
  rw [List.length_map, List.length_range] at h3
  exact h3
end K32
end

section
set_option linter.all false
set_option autoImplicit false
/-! K32D: the ways to tell a ring, the least of them; a ring turned to its least ware; an uneven ring through a stall that does not fit. Plain Lean. -/
namespace K32

def pLt (p q : Int × Int) : Bool := decide (p.1 < q.1 ∨ (p.1 = q.1 ∧ p.2 < q.2))
def lexR : Way → Way → Bool
  | [], [] => false
  | [], _ :: _ => true
  | _ :: _, [] => false
  | p :: a, q :: b => if p = q then lexR a b else pLt p q
theorem pLt_trans {p q r : Int × Int} (h : pLt p q = true) (k : pLt q r = true) : pLt p r = true := by
  unfold pLt at *
  rw [decide_eq_true_eq] at *
  omega
theorem pLt_irr (p : Int × Int) : pLt p p = false := by
  unfold pLt
  rw [decide_eq_false_iff_not]
  omega
theorem lexR_trans : ∀ {a b c : Way}, lexR a b = true → lexR b c = true → lexR a c = true
  | [], [], c, h, _ => by cases h
  | [], _ :: _, [], _, k => by cases k
  | [], _ :: _, _ :: _, _, _ => rfl
  | _ :: _, [], c, h, _ => by cases h
  | _ :: _, _ :: _, [], _, k => by cases k
  | p :: a, q :: b, r :: c, h, k => by
    unfold lexR at h k ⊢
    by_cases e1 : p = q
    · subst e1
      rw [if_pos rfl] at h
      by_cases e2 : p = r
      · rw [if_pos e2] at k ⊢
        exact lexR_trans h k
      · rw [if_neg e2] at k ⊢
        exact k
    · rw [if_neg e1] at h
      by_cases e2 : q = r
      · subst e2
        rw [if_neg e1]
        exact h
      · rw [if_neg e2] at k
        have t := pLt_trans h k
        by_cases e3 : p = r
        · subst e3
          rw [pLt_irr] at t
          cases t
        · rw [if_neg e3]
          exact t
theorem lexR_irr : ∀ (a : Way), lexR a a = false
  | [] => rfl
  | p :: a => by
    unfold lexR
    rw [if_pos rfl]
    exact lexR_irr a
def minR (x : Way) (xs : List Way) : Way := xs.foldl (fun a y => if lexR y a = true then y else a) x
theorem minR_mem : ∀ (xs : List Way) (x : Way), minR x xs ∈ x :: xs
  | [], x => by simp [minR]
  | y :: ys, x => by
    have ih := minR_mem ys (if lexR y x = true then y else x)
    show minR (if lexR y x = true then y else x) ys ∈ x :: y :: ys
    rcases List.mem_cons.mp ih with e | m
    · rw [e]
      split <;> simp
    · exact List.mem_cons_of_mem _ (List.mem_cons_of_mem _ m)
theorem minR_le : ∀ (xs : List Way) (x : Way), ∀ y ∈ x :: xs, lexR y (minR x xs) = false
  | [], x, y, m => by
    have e : y = x := by simpa using m
    subst e
    exact lexR_irr _
  | z :: zs, x, y, m => by
    show lexR y (minR (if lexR z x = true then z else x) zs) = false
    have ih := minR_le zs (if lexR z x = true then z else x)
    have h0 := ih (if lexR z x = true then z else x) List.mem_cons_self
    -- below the head: not below the least
    have up : lexR y (if lexR z x = true then z else x) = false → lexR y (minR (if lexR z x = true then z else x) zs) = false := fun k => by
      rcases List.mem_cons.mp (minR_mem zs (if lexR z x = true then z else x)) with e | mm
      · rw [e]
        exact k
      · cases q : lexR y (minR (if lexR z x = true then z else x) zs) with
        | false => rfl
        | true =>
          exfalso
          -- minR <= head always: head is not below minR, so minR = head or minR below head
          exact absurd q (by
            intro q
            have tri : ∀ (l : List Way) (h : Way), minR h l = h ∨ lexR (minR h l) h = true := by
              intro l
              induction l with
              | nil => exact fun h => .inl rfl
              | cons c l ih2 =>
                intro h
                show minR (if lexR c h = true then c else h) l = h ∨ lexR (minR (if lexR c h = true then c else h) l) h = true
                by_cases ch : lexR c h = true
                · rw [if_pos ch]
                  rcases ih2 c with e | e
                  · rw [e]
                    exact .inr ch
                  · exact .inr (lexR_trans e ch)
                · rw [if_neg ch]
                  exact ih2 h
            rcases tri zs (if lexR z x = true then z else x) with e | e
            · rw [e] at q
              rw [k] at q
              cases q
            · rw [lexR_trans q e] at k
              cases k)
    rcases List.mem_cons.mp m with rfl | m
    · refine up ?_
      by_cases q : lexR z y = true
      · rw [if_pos q]
        cases r : lexR y z with
        | false => rfl
        | true =>
          have := lexR_trans r q
          rw [lexR_irr] at this
          cases this
      · rw [if_neg q]
        exact lexR_irr _
    · rcases List.mem_cons.mp m with rfl | m
      · refine up ?_
        by_cases q : lexR y x = true
        · rw [if_pos q]
          exact lexR_irr _
        · rw [if_neg q]
          exact Bool.not_eq_true _ ▸ q
      · exact ih y (List.mem_cons_of_mem _ m)

def rots (r : Way) : List Way := (List.range r.length).map fun i => r.drop i ++ r.take i
def ways (S : List Stall) (r : Way) : List Way := rots r ++ rots (turned S r)
def leastWay (S : List Stall) (r : Way) : Way := match ways S r with
  | [] => []
  | x :: xs => minR x xs
theorem rots_mem {r y : Way} (h : y ∈ rots r) : ∃ a b, r = a ++ b ∧ y = b ++ a := by
  obtain ⟨i, _, rfl⟩ := List.mem_map.mp h
  exact ⟨r.take i, r.drop i, (List.take_append_drop i r).symm, rfl⟩
theorem rots_of {a b : Way} (hb : b ≠ []) : b ++ a ∈ rots (a ++ b) := by
  refine List.mem_map.mpr ⟨a.length, ?_, ?_⟩
  · rw [List.mem_range, List.length_append]
    have := List.length_pos_iff.mpr hb
    omega
  · show (a ++ b).drop a.length ++ (a ++ b).take a.length = b ++ a
    rw [List.drop_left, List.take_left]
theorem ways_ne {S : List Stall} {r : Way} (h : r ≠ []) : ways S r ≠ [] := fun e => by
  have q := congrArg List.length e
  unfold ways rots at q
  rw [List.length_append, List.length_map, List.length_map, List.length_range, List.length_range] at q
  have := List.length_pos_iff.mpr h
  rw [List.length_nil] at q
  omega
theorem leastWay_mem {S : List Stall} {r : Way} (h : r ≠ []) : leastWay S r ∈ ways S r := by
  unfold leastWay
  cases e : ways S r with
  | nil => exact absurd e (ways_ne h)
  | cons x xs => exact minR_mem xs x
theorem leastWay_le {S : List Stall} {r y : Way} (m : y ∈ ways S r) : lexR y (leastWay S r) = false := by
  unfold leastWay
  cases e : ways S r with
  | nil =>
    rw [e] at m
    cases m
  | cons x xs =>
    rw [e] at m
    exact minR_le xs x y m
structure SameRing (S : List Stall) (r y : Way) : Prop where
  ring : SRing S r → SRing S y
  edg : ∀ x, x ∈ edges y ↔ x ∈ edges r
  un : SRing S r → (Uneven S y ↔ Uneven S r)
theorem ways_same {n : Int} {S : List Stall} (g : Good n S) {r y : Way} (h : y ∈ ways S r) : SameRing S r y := by
  rcases List.mem_append.mp h with m | m
  · obtain ⟨a, b, rfl, rfl⟩ := rots_mem m
    exact ⟨fun h => h.swap, fun x => edges_swap, fun _ => uneven_swap⟩
  · obtain ⟨a, b, e, rfl⟩ := rots_mem m
    refine ⟨fun h => ?_, fun x => ?_, fun h => ?_⟩
    · have q := h.turn g
      rw [e] at q
      exact q.swap
    · rw [edges_swap, ← e]
      exact edges_turned
    · obtain ⟨w, cl⟩ := h.cl
      rw [uneven_swap, ← e]
      exact uneven_turn g cl
theorem least_of {l : List Int} (h : l ≠ []) : ∃ e ∈ l, ∀ x ∈ l, e ≤ x := by
  induction l with
  | nil => exact absurd rfl h
  | cons a l ih =>
    by_cases q : l = []
    · subst q
      exact ⟨a, by simp, fun x m => by
        have e : x = a := by simpa using m
        rw [e]
        exact Int.le_refl _⟩
    · obtain ⟨e, m, k⟩ := ih q
      by_cases c : a ≤ e
      · refine ⟨a, by simp, fun x m => ?_⟩
        rcases List.mem_cons.mp m with rfl | m
        · exact Int.le_refl _
        · exact Int.le_trans c (k x m)
      · refine ⟨e, List.mem_cons_of_mem _ m, fun x m => ?_⟩
        rcases List.mem_cons.mp m with rfl | m
        · omega
        · exact k x m
theorem leastWay_canon {n : Int} {S : List Stall} (g : Good n S) {r : Way} (h : SRing S r) : Canon S (leastWay S r) := by
  have mm := leastWay_mem (S := S) h.ne
  have sm := ways_same g mm
  refine ⟨sm.ring h, ?_⟩
  obtain ⟨e, me, le⟩ := least_of (l := edges r) fun q => h.ne (List.map_eq_nil_iff.mp q)
  obtain ⟨p, mp, rfl⟩ := List.mem_map.mp me
  obtain ⟨w0, cl⟩ := h.cl
  obtain ⟨st, k1, k2⟩ := path_mem cl mp
  have gs := g st (stAt_rng k1).2.2
  -- a way that begins with the least stall, from its lower ware
  obtain ⟨y, u, t, my, ey, hu, hu2⟩ : ∃ y u t, y ∈ ways S r ∧ y = (p.1, u) :: t ∧ st.Has u ∧ u ≤ st.oth u := by
    by_cases c : p.2 ≤ st.oth p.2
    · obtain ⟨a, b, e⟩ := List.append_of_mem mp
      refine ⟨(p :: b) ++ a, p.2, b ++ a, List.mem_append_left _ ?_, rfl, k2, c⟩
      rw [e]
      exact rots_of (by simp)
    · have mt : (p.1, st.oth p.2) ∈ turned S r := List.mem_map.mpr ⟨p, List.mem_reverse.mpr mp, turn1_at k1⟩
      obtain ⟨a, b, e⟩ := List.append_of_mem mt
      refine ⟨((p.1, st.oth p.2) :: b) ++ a, st.oth p.2, b ++ a, List.mem_append_right _ ?_, rfl, gs.oth_has _, ?_⟩
      · rw [e]
        exact rots_of (by simp)
      · rw [gs.oth_oth k2]
        omega
  have nlt := leastWay_le my
  have sr := sm.ring h
  obtain ⟨q, t', eq⟩ := List.exists_cons_of_ne_nil sr.ne
  have me' : q.1 ∈ edges r := (sm.edg q.1).mp (by rw [eq]; exact List.mem_map.mpr ⟨q, List.mem_cons_self, rfl⟩)
  have c1 := le q.1 me'
  rw [ey, eq] at nlt
  obtain ⟨w', cl'⟩ := sr.cl
  rw [eq] at cl'
  obtain ⟨st', j1, j2⟩ := path_mem cl' (p := q) List.mem_cons_self
  have hq : q.1 = p.1 ∧ q.2 ≤ u := by
    unfold lexR at nlt
    by_cases c : (p.1, u) = q
    · rw [← c]
      exact ⟨rfl, Int.le_refl _⟩
    · rw [if_neg c] at nlt
      unfold pLt at nlt
      rw [decide_eq_false_iff_not] at nlt
      dsimp only at nlt
      omega
  have es : st' = st := by
    rw [hq.1, k1] at j1
    exact (Option.some.inj j1).symm
  refine ⟨q.1, q.2, t', st', eq, j1, fun x m => ?_, ?_⟩
  · rw [hq.1]
    exact le x ((sm.edg x).mp m)
  · rw [es] at j2 ⊢
    by_cases c : q.2 = u
    · rw [c]
      exact hu2
    · have e1 : u = st.oth q.2 := Stall.has_cases hu j2 fun z => c z.symm
      rw [← e1]
      exact hq.2
/-- a ring turned so that it begins at its least ware -/
theorem ring_low {S : List Stall} {r : Way} (h : SRing S r) : ∃ p t, SRing S (p :: t) ∧ (∀ q ∈ t, p.2 < q.2) ∧ (∀ x, x ∈ edges (p :: t) ↔ x ∈ edges r) ∧ (Uneven S (p :: t) ↔ Uneven S r) := by
  obtain ⟨e, me, le⟩ := least_of (l := wares r) fun q => h.ne (List.map_eq_nil_iff.mp q)
  obtain ⟨p, mp, rfl⟩ := List.mem_map.mp me
  obtain ⟨a, b, e, hr⟩ := h.from mp
  subst e
  refine ⟨p, b ++ a, hr, fun q m => ?_, fun x => edges_swap (a := p :: b) (b := a), uneven_swap (a := p :: b) (b := a)⟩
  have c1 := le q.2 (List.mem_map.mpr ⟨q, by simp at m ⊢; rcases m with m | m <;> simp [m], rfl⟩)
  have nd := (List.nodup_cons.mp (show (p.2 :: (b ++ a).map (·.2)).Nodup from hr.sp)).1
  have c2 : p.2 ≠ q.2 := fun z => nd (by rw [z]; exact List.mem_map.mpr ⟨q, m, rfl⟩)
  omega

/-! ### an uneven ring through a stall that does not fit -/
/-- wares that hang together are joined by a way that comes by no ware twice -/
theorem con_path {n : Int} {S lf : List Stall} (g : Good n S) (gl : Good n lf) {L : Int → Prop} (into : ∀ st ∈ lf, ∃ e, L e ∧ stAt S e = some st) {v u : Int} (h : Con lf v u) :
    ∃ r, Path S v r u ∧ (wares r ++ [u]).Nodup ∧ ∀ p ∈ r, L p.1 := by
  refine h (fun x => ∃ r, Path S v r x ∧ (wares r ++ [x]).Nodup ∧ ∀ p ∈ r, L p.1) (cl_of gl fun st m w hw ⟨r, k1, k2, k3⟩ => ?_) ⟨[], rfl, by simp [wares], fun p m => by cases m⟩
  by_cases c : st.oth w ∈ wares r
  · -- cut short
    obtain ⟨p, mp, ep⟩ := List.mem_map.mp c
    obtain ⟨a, b, rfl⟩ := List.append_of_mem mp
    obtain ⟨m2, i1, i2⟩ := path_append.mp k1
    have e : m2 = st.oth w := (path_head i2).symm.trans ep
    rw [e] at i1
    refine ⟨a, i1, ?_, fun q mq => k3 q (by simp [mq])⟩
    have k4 : (a.map (·.2) ++ (p.2 :: b.map (·.2)) ++ [w]).Nodup := by
      have := k2
      unfold wares at this
      rw [List.map_append] at this
      exact this
    rw [ep] at k4
    have k5 : ((a.map (·.2) ++ [st.oth w]) ++ (b.map (·.2) ++ [w])).Nodup := by
      have e2 : a.map (·.2) ++ (st.oth w :: b.map (·.2)) ++ [w] = (a.map (·.2) ++ [st.oth w]) ++ (b.map (·.2) ++ [w]) := by simp
      rw [← e2]
      exact k4
    exact (List.nodup_append.mp k5).1
  · obtain ⟨e, hL, he⟩ := into st m
    refine ⟨r ++ [(e, w)], path_append.mpr ⟨w, k1, rfl, st, he, hw, rfl⟩, ?_, fun q mq => ?_⟩
    · have e2 : wares (r ++ [(e, w)]) ++ [st.oth w] = (wares r ++ [w]) ++ [st.oth w] := by simp [wares]
      rw [e2]
      refine List.nodup_append.mpr ⟨k2, by simp, fun x mx y my => ?_⟩
      have ey : y = st.oth w := by simpa using my
      rw [ey]
      rcases List.mem_append.mp mx with mx | mx
      · intro z
        exact c (by rw [← z]; exact mx)
      · have ex : x = w := by simpa using mx
        rw [ex]
        exact fun z => (gl st m).oth_ne w z.symm
    · rcases List.mem_append.mp mq with mq | mq
      · exact k3 q mq
      · have eq : q = (e, w) := by simpa using mq
        rw [eq]
        exact hL
/-- a way that comes by no ware twice goes along no stall twice -/
theorem path_edges {n : Int} {S : List Stall} (g : Good n S) : ∀ {r : Way} {v u : Int}, Path S v r u → (wares r ++ [u]).Nodup → (edges r).Nodup
  | [], _, _, _, _ => List.nodup_nil
  | (e, x) :: r, v, u, h, nd => by
    have h0 := h
    obtain ⟨e1, st, k1, k2, k3⟩ := h
    have nd' : x ∉ wares r ++ [u] ∧ (wares r ++ [u]).Nodup := List.nodup_cons.mp (show (x :: (wares r ++ [u])).Nodup from nd)
    refine List.nodup_cons.mpr ⟨fun m => ?_, path_edges g k3 nd'.2⟩
    obtain ⟨q, mq, eq⟩ := List.mem_map.mp m
    have eq' : q.1 = e := eq
    -- q goes along e from one of its wares to the other; x is neither
    obtain ⟨a, b, rfl⟩ := List.append_of_mem mq
    obtain ⟨m2, i1, i2⟩ := path_append.mp k3
    obtain ⟨f1, st', f2, f3, f4⟩ := (show Path S m2 ((q.1, q.2) :: b) u from i2)
    rw [eq', k1] at f2
    cases f2
    have hx : st.Has x := by rw [e1]; exact k2
    have n1 : x ≠ q.2 := fun z => nd'.1 (by rw [z]; simp [wares])
    have ex : x = st.oth q.2 := Stall.has_cases hx (by rw [f1]; exact f3) n1
    -- the next ware is x
    have tail : x ∈ wares b ++ [u] := by
      rw [← f1] at f4
      rw [← ex] at f4
      cases b with
      | nil =>
        cases f4
        simp
      | cons c b => 
        have : c.2 = x := path_head f4
        simp [wares, this]
    exact nd'.1 (by
      rcases List.mem_append.mp tail with t | t
      · refine List.mem_append_left _ ?_
        unfold wares at t ⊢
        rw [List.map_append, List.map_cons]
        exact List.mem_append_right _ (List.mem_cons_of_mem _ t)
      · exact List.mem_append_right _ t)
theorem uneven_through {n : Int} {S lf : List Stall} (g : Good n S) (gl : Good n lf) {L : Int → Prop} (into : ∀ st ∈ lf, ∃ e, L e ∧ stAt S e = some st) (back : ∀ e st, L e → stAt S e = some st → st ∈ lf)
    {k : Int} {sk : Stall} (hk : stAt S k = some sk) (nk : ¬ L k) (hf : Fits lf) (nf : ¬ Fits (sk :: lf)) : ∃ r, SRing S r ∧ Uneven S r ∧ k ∈ edges r := by
  have gk := g sk (stAt_rng hk).2.2
  have con : Con lf sk.other sk.one := by
    apply Classical.byContradiction
    intro no
    exact nf (fits_apart gk hf fun c => no c.symm)
  obtain ⟨r, p1, p2, p3⟩ := con_path g gl into con
  have p4 := path_edges g p1 p2
  have hone : sk.Has sk.one := .inl rfl
  have oth : sk.oth sk.one = sk.other := by
    unfold Stall.oth
    rw [if_pos rfl]
  have ring : Path S sk.one ((k, sk.one) :: r) sk.one := ⟨rfl, sk, hk, hone, by rw [oth]; exact p1⟩
  refine ⟨(k, sk.one) :: r, ⟨⟨by simp, ?_, sk.one, ring⟩, ?_⟩, fun ev => ?_, by simp [edges]⟩
  · refine List.nodup_cons.mpr ⟨fun m => ?_, p4⟩
    obtain ⟨q, mq, eq⟩ := List.mem_map.mp m
    have eq' : q.1 = k := eq
    exact nk (by rw [← eq']; exact p3 q mq)
  · refine List.nodup_cons.mpr ⟨fun m => ?_, (List.nodup_append.mp p2).1⟩
    exact (List.nodup_append.mp p2).2.2 _ m _ (by simp) rfl
  · obtain ⟨s, sp, sq⟩ := hf
    have fit : ∀ q ∈ r, ∀ st, stAt S q.1 = some st → FitS s st := fun q mq st e => sq st (back q.1 st (p3 q mq) e)
    have tel := path_fit g sp p1 fit
    refine nf ⟨s, sp, fun st m => ?_⟩
    rcases List.mem_cons.mp m with rfl | m
    · refine hold_fit gk sp hone ?_
      have hm := gk.hold_mul hone
      have hp := gk.hold_pos st.one
      have ho := gk.hold_pos (st.oth st.one)
      have s1 := sp st.one
      have s2 := sp (st.oth st.one)
      have rt := gk.r
      have pp1 : 0 < pr (h1 S) r := pr_pos fun q _ => (h_pos g q).1
      have pp2 : 0 < pr (h2 S) r := pr_pos fun q _ => (h_pos g q).2
      have ev' : st.hold st.one * pr (h1 S) r = st.hold (st.oth st.one) * pr (h2 S) r := by
        have e1 : h1 S (k, st.one) * pr (h1 S) r = h2 S (k, st.one) * pr (h2 S) r := ev
        rw [h1_at (p := (k, st.one)) hk, h2_at (p := (k, st.one)) hk] at e1
        exact e1
      rw [oth] at *
      generalize pr (h1 S) r = A at *
      generalize pr (h2 S) r = B at *
      generalize st.hold st.one = hu at *
      generalize st.hold st.other = hv at *
      generalize s st.one = su at *
      generalize s st.other = sv at *
      generalize st.root = rr at *
      clear fit
      refine rat_sq (Rat.mul_pos s1 hp) (Rat.mul_pos s2 rt) ?_
      -- A sv^2 = B su^2, hu A = hv B, hu hv = rr^2
      have x1 : (su * hu * (su * hu)) * B = (sv * rr * (sv * rr)) * B := by
        have y1 : su * hu * (su * hu) * B = hu * hu * (B * (su * su)) := by grind
        have y2 : sv * rr * (sv * rr) * B = (hu * hv) * (sv * sv) * B := by rw [hm]; grind
        have y3 : (hu * hv) * (sv * sv) * B = hu * (sv * sv) * (hv * B) := by grind
        rw [y1, ← tel, y2, y3, ← ev']
        grind
      exact rat_cancel pp2 x1
    · exact sq st m
end K32
end

section
set_option linter.all false
set_option autoImplicit false
/-! K32E: the ascending tuples, what is left without one, the first one without which a web fits. Plain Lean. -/
namespace K32

def lots : Nat → List (List Int)
  | 0 => [[]]
  | k + 1 => lots k ++ (lots k).map fun l => l ++ [(k : Int)]
theorem lots_len : ∀ k : Nat, (lots k).length = 2 ^ k
  | 0 => rfl
  | k + 1 => by
    show (lots k ++ (lots k).map fun l => l ++ [(k : Int)]).length = 2 ^ (k + 1)
    rw [List.length_append, List.length_map, lots_len k, Nat.pow_succ]
    omega
def Asc (m : Nat) (l : List Int) : Prop := l.Pairwise (· < ·) ∧ ∀ x ∈ l, 0 ≤ x ∧ x < m
theorem mem_lots : ∀ {m : Nat} {l : List Int}, l ∈ lots m ↔ Asc m l
  | 0, l => by
    show l ∈ [[]] ↔ _
    constructor
    · intro h
      have e : l = [] := by simpa using h
      subst e
      exact ⟨List.Pairwise.nil, fun x m => by cases m⟩
    · intro h
      cases l with
      | nil => simp
      | cons a l =>
        have := h.2 a List.mem_cons_self
        omega
  | m + 1, l => by
    show l ∈ lots m ++ (lots m).map (fun l => l ++ [(m : Int)]) ↔ _
    rw [List.mem_append]
    constructor
    · rintro (h | h)
      · have := mem_lots.mp h
        exact ⟨this.1, fun x mx => by have := this.2 x mx; omega⟩
      · obtain ⟨l', h', rfl⟩ := List.mem_map.mp h
        have q := mem_lots.mp h'
        refine ⟨List.pairwise_append.mpr ⟨q.1, List.pairwise_singleton _ _, fun a ma b mb => ?_⟩, fun x mx => ?_⟩
        · have e : b = (m : Int) := by simpa using mb
          have := q.2 a ma
          omega
        · rcases List.mem_append.mp mx with mx | mx
          · have := q.2 x mx
            omega
          · have e : x = (m : Int) := by simpa using mx
            omega
    · intro h
      by_cases c : l = []
      · subst c
        exact .inl (mem_lots.mpr ⟨List.Pairwise.nil, fun x m => by cases m⟩)
      · obtain ⟨c', z, rfl⟩ := snoc_of c
        obtain ⟨p1, _, p3⟩ := List.pairwise_append.mp h.1
        have hz := h.2 z (by simp)
        by_cases e : z = (m : Int)
        · subst e
          refine .inr (List.mem_map.mpr ⟨c', mem_lots.mpr ⟨p1, fun x mx => ?_⟩, rfl⟩)
          have a := p3 x mx (m : Int) (by simp)
          have b := h.2 x (by simp [mx])
          omega
        · refine .inl (mem_lots.mpr ⟨h.1, fun x mx => ?_⟩)
          have b := h.2 x mx
          rcases List.mem_append.mp mx with mx | mx
          · have a := p3 x mx z (by simp)
            omega
          · have a : x = z := by simpa using mx
            omega

/-- the items of a list whose places are not in the lot, the first ones n taken -/
def leftAt {α : Type} (S : List α) (lot : List Int) : Nat → List α
  | 0 => []
  | n + 1 => leftAt S lot n ++ (if (n : Int) ∈ lot then [] else (S[n]?).toList)
def leftOf {α : Type} (S : List α) (lot : List Int) : List α := leftAt S lot S.length
theorem leftAt_yes {α : Type} {S : List α} {lot : List Int} {n : Nat} (h : (n : Int) ∈ lot) : leftAt S lot (n + 1) = leftAt S lot n := by
  show leftAt S lot n ++ (if (n : Int) ∈ lot then [] else (S[n]?).toList) = leftAt S lot n
  rw [if_pos h, List.append_nil]
theorem leftAt_no {α : Type} {S : List α} {lot : List Int} {n : Nat} {x : α} (h : (n : Int) ∉ lot) (e : S[n]? = some x) : leftAt S lot (n + 1) = leftAt S lot n ++ [x] := by
  show leftAt S lot n ++ (if (n : Int) ∈ lot then [] else (S[n]?).toList) = leftAt S lot n ++ [x]
  rw [if_neg h, e]
  rfl
theorem leftAt_map {α β : Type} (f : α → β) (S : List α) (lot : List Int) : ∀ n, leftAt (S.map f) lot n = (leftAt S lot n).map f
  | 0 => rfl
  | n + 1 => by
    show leftAt (S.map f) lot n ++ _ = (leftAt S lot n ++ _).map f
    rw [leftAt_map f S lot n, List.map_append]
    congr 1
    split
    · rfl
    · rw [List.getElem?_map]
      cases S[n]? <;> rfl
theorem leftAt_len {α : Type} (S : List α) (lot : List Int) : ∀ n, (leftAt S lot n).length ≤ n
  | 0 => Nat.le_refl _
  | n + 1 => by
    have ih := leftAt_len S lot n
    show (leftAt S lot n ++ _).length ≤ n + 1
    rw [List.length_append]
    split
    · simp
      omega
    · cases S[n]? <;> simp <;> omega
theorem mem_leftAt {α : Type} {S : List α} {lot : List Int} {x : α} : ∀ {n : Nat}, x ∈ leftAt S lot n ↔ ∃ i : Nat, i < n ∧ (i : Int) ∉ lot ∧ S[i]? = some x
  | 0 => by
    constructor
    · intro h
      cases h
    · rintro ⟨i, h, _⟩
      omega
  | n + 1 => by
    show x ∈ leftAt S lot n ++ _ ↔ _
    rw [List.mem_append, mem_leftAt]
    constructor
    · rintro (⟨i, a, b, c⟩ | h)
      · exact ⟨i, by omega, b, c⟩
      · split at h
        · cases h
        · rename_i q
          exact ⟨n, by omega, q, by simpa using h⟩
    · rintro ⟨i, a, b, c⟩
      by_cases e : i = n
      · subst e
        refine .inr ?_
        rw [if_neg b, c]
        simp
      · exact .inl ⟨i, by omega, b, c⟩
theorem mem_leftOf {α : Type} {S : List α} {lot : List Int} {x : α} : x ∈ leftOf S lot ↔ ∃ i : Nat, (i : Int) ∉ lot ∧ S[i]? = some x := by
  unfold leftOf
  rw [mem_leftAt]
  constructor
  · rintro ⟨i, _, b, c⟩
    exact ⟨i, b, c⟩
  · rintro ⟨i, b, c⟩
    obtain ⟨l, _⟩ := List.getElem?_eq_some_iff.mp c
    exact ⟨i, l, b, c⟩
theorem leftOf_good {n : Int} {S : List Stall} (g : Good n S) (lot : List Int) : Good n (leftOf S lot) := fun st m => by
  obtain ⟨i, _, c⟩ := mem_leftOf.mp m
  exact g st (List.mem_of_getElem? c)
theorem leftOf_nil_mem {α : Type} {S : List α} {x : α} : x ∈ leftOf S [] ↔ x ∈ S := by
  rw [mem_leftOf, List.mem_iff_getElem?]
  exact ⟨fun ⟨i, _, c⟩ => ⟨i, c⟩, fun ⟨i, c⟩ => ⟨i, by simp, c⟩⟩

/-- the first one of a row of tuples without which the web fits -/
def FirstFit (S : List Stall) (order : List (List Int)) (t : List Int) : Prop := ∃ a b, order = a ++ t :: b ∧ (∀ x ∈ a, ¬ Fits (leftOf S x)) ∧ Fits (leftOf S t)
theorem FirstFit.unique {S : List Stall} {order : List (List Int)} {t u : List Int} (h : FirstFit S order t) (k : FirstFit S order u) : t = u := by
  obtain ⟨a, b, e1, n1, f1⟩ := h
  obtain ⟨a', b', e2, n2, f2⟩ := k
  rw [e1] at e2
  rcases List.append_eq_append_iff.mp e2 with ⟨c, q1, q2⟩ | ⟨c, q1, q2⟩
  · cases c with
    | nil =>
      have := (List.cons.inj q2).1
      exact this
    | cons x c =>
      have e := (List.cons.inj q2).1
      subst e
      exact absurd f1 (n2 t (by rw [q1]; simp))
  · cases c with
    | nil =>
      have := (List.cons.inj q2).1
      exact this.symm
    | cons x c =>
      have e := (List.cons.inj q2).1
      subst e
      exact absurd f2 (n1 u (by rw [q1]; simp))
/-- what the sorted row of all tuples is -/
structure Order (m : Nat) (order : List (List Int)) : Prop where
  all : ∀ l, l ∈ order ↔ Asc m l
  len : order.Pairwise fun l k => l.length ≤ k.length

variable {n : Int} {S : List Stall} {order : List (List Int)} {t : List Int}
theorem FirstFit.exists (o : Order S.length order) : ∃ t, FirstFit S order t := by
  have full : Asc S.length ((List.range S.length).map fun i : Nat => (i : Int)) := by
    refine ⟨List.pairwise_map.mpr (List.pairwise_lt_range.imp fun {a b} h => by omega), fun x mx => ?_⟩
    obtain ⟨i, mi, rfl⟩ := List.mem_map.mp mx
    have := List.mem_range.mp mi
    omega
  have fits : Fits (leftOf S ((List.range S.length).map fun i : Nat => (i : Int))) := by
    refine fits_nil.mono fun st m => ?_
    obtain ⟨i, a, c⟩ := mem_leftOf.mp m
    obtain ⟨l, _⟩ := List.getElem?_eq_some_iff.mp c
    exact absurd (List.mem_map.mpr ⟨i, List.mem_range.mpr l, rfl⟩) a
  have mm := (o.all _).mpr full
  clear full
  generalize ((List.range S.length).map fun i : Nat => (i : Int)) = z at *
  clear o
  induction order with
  | nil => cases mm
  | cons x xs ih =>
    by_cases c : Fits (leftOf S x)
    · exact ⟨x, [], xs, rfl, (fun y my => nomatch my), c⟩
    · rcases List.mem_cons.mp mm with e | mm
      · subst e
        exact absurd fits c
      · obtain ⟨t, a, b, e, q1, q2⟩ := ih mm
        refine ⟨t, x :: a, b, by rw [e]; rfl, fun y my => ?_, q2⟩
        rcases List.mem_cons.mp my with e | my
        · rw [e]
          exact c
        · exact q1 y my
theorem FirstFit.asc (o : Order S.length order) (h : FirstFit S order t) : Asc S.length t := by
  obtain ⟨a, b, e, _, _⟩ := h
  exact (o.all t).mp (by rw [e]; simp)
/-- a tuple without which the web fits is as long at least -/
theorem FirstFit.least (o : Order S.length order) (h : FirstFit S order t) {u : List Int} (hu : Asc S.length u) (f : Fits (leftOf S u)) : t.length ≤ u.length := by
  obtain ⟨a, b, e, q1, q2⟩ := h
  have m := (o.all u).mpr hu
  have pw := o.len
  rw [e] at m pw
  rcases List.mem_append.mp m with m | m
  · exact absurd f (q1 u m)
  · rcases List.mem_cons.mp m with m | m
    · rw [m]
      exact Nat.le_refl _
    · exact (List.pairwise_cons.mp (List.pairwise_append.mp pw).2.1).1 u m
theorem asc_nil (m : Nat) : Asc m [] := ⟨List.Pairwise.nil, fun x m => by cases m⟩
theorem FirstFit.nil_iff (o : Order S.length order) (h : FirstFit S order t) : t = [] ↔ Fits S := by
  constructor
  · intro e
    subst e
    obtain ⟨a, b, e, q1, q2⟩ := h
    exact q2.mono fun st m => leftOf_nil_mem.mpr m
  · intro f
    have q := h.least o (asc_nil _) (f.mono fun st m => leftOf_nil_mem.mp m)
    exact List.length_eq_zero_iff.mp (by simpa using q)
/-- of a web that fits but for one stall -/
def Nearly (S : List Stall) : Prop := ∃ B G, S.Perm (B ++ G) ∧ B.length ≤ 1 ∧ Fits G
theorem FirstFit.nearly (o : Order S.length order) (h : FirstFit S order t) (k : Nearly S) : t.length ≤ 1 := by
  obtain ⟨B, G, p, l, f⟩ := k
  match B, l with
  | [], _ =>
    have e := (h.nil_iff o).mpr (f.mono fun st m => p.mem_iff.mp m)
    rw [e]
    exact Nat.zero_le _
  | [b], _ =>
    have mb : b ∈ S := p.mem_iff.mpr (by simp)
    obtain ⟨x, y, e⟩ := List.append_of_mem mb
    have p2 : (x ++ y).Perm G := by
      have p3 : (b :: (x ++ y)).Perm (b :: G) := by
        rw [e] at p
        exact (List.perm_middle.symm).trans p
      exact p3.cons_inv
    have hl : x.length < S.length := by
      rw [e, List.length_append, List.length_cons]
      omega
    refine h.least o (u := [(x.length : Int)]) ⟨List.pairwise_singleton _ _, fun z mz => ?_⟩ (f.mono fun st m => ?_)
    · have e : z = (x.length : Int) := by simpa using mz
      omega
    · obtain ⟨i, a, c⟩ := mem_leftOf.mp m
      have ne : i ≠ x.length := fun q => a (by rw [q]; simp)
      refine p2.mem_iff.mp ?_
      rw [e] at c
      by_cases q : i < x.length
      · rw [List.getElem?_append_left q] at c
        exact List.mem_append_left _ (List.mem_of_getElem? c)
      · rw [List.getElem?_append_right (by omega)] at c
        obtain ⟨j, ej⟩ : ∃ j, i - x.length = j + 1 := ⟨i - x.length - 1, by omega⟩
        rw [ej, List.getElem?_cons_succ] at c
        exact List.mem_append_right _ (List.mem_of_getElem? c)
/-- each uneven ring goes along one of them -/
theorem FirstFit.cut (g : Good n S) (h : FirstFit S order t) {r : Way} (hr : Ring S r) (u : Uneven S r) : ∃ k ∈ t, k ∈ edges r := by
  apply Classical.byContradiction
  intro no
  obtain ⟨a, b, e, q1, ⟨s, sp, sq⟩⟩ := h
  obtain ⟨w, cl⟩ := hr.cl
  refine ring_even g sp cl (fun q mq st hs => sq st ?_) u
  refine mem_leftOf.mpr ⟨q.1.toNat, fun m => no ⟨q.1, ?_, List.mem_map.mpr ⟨q, mq, rfl⟩⟩, ?_⟩
  · have := stAt_rng hs
    rw [Int.toNat_of_nonneg this.1] at m
    exact m
  · have := stAt_rng hs
    unfold stAt at hs
    rw [if_pos this.1] at hs
    exact hs
/-- each of them stands in a simple uneven ring -/
theorem FirstFit.in_ring (g : Good n S) (o : Order S.length order) (h : FirstFit S order t) {k : Int} (hk : k ∈ t) : ∃ r, SRing S r ∧ Uneven S r ∧ k ∈ edges r := by
  have ha := h.asc o
  have rk := ha.2 k hk
  obtain ⟨sk, hs⟩ := stAt_of rk.1 rk.2
  have nf : ¬ Fits (leftOf S (t.filter fun x => decide (x ≠ k))) := fun f => by
    have q := h.least o (u := t.filter fun x => decide (x ≠ k)) ⟨ha.1.filter _, fun x mx => ha.2 x (List.mem_filter.mp mx).1⟩ f
    have lt : (t.filter fun x => decide (x ≠ k)).length < t.length := by
      rw [List.length_filter_lt_length_iff_exists]
      exact ⟨k, hk, by simp⟩
    omega
  obtain ⟨a, b, e, q1, q2⟩ := id h
  have toN : ∀ {x : Int} {st : Stall}, stAt S x = some st → S[x.toNat]? = some st ∧ ((x.toNat : Nat) : Int) = x := fun {x st} hs => by
    have := stAt_rng hs
    unfold stAt at hs
    rw [if_pos this.1] at hs
    exact ⟨hs, Int.toNat_of_nonneg this.1⟩
  refine uneven_through g (leftOf_good g t) (L := fun x => x ∉ t) (fun st m => ?_) (fun x st nx hx => ?_) hs (fun z => z hk) q2 fun f => nf (f.mono fun st m => ?_)
  · obtain ⟨i, a, c⟩ := mem_leftOf.mp m
    exact ⟨i, a, by rw [stAt_nat]; exact c⟩
  · obtain ⟨c1, c2⟩ := toN hx
    exact mem_leftOf.mpr ⟨x.toNat, by rw [c2]; exact nx, c1⟩
  · obtain ⟨i, a, c⟩ := mem_leftOf.mp m
    by_cases z : (i : Int) = k
    · have : stAt S k = some st := by
        rw [← z, stAt_nat]
        exact c
      rw [hs] at this
      cases this
      exact List.mem_cons_self
    · refine List.mem_cons_of_mem _ (mem_leftOf.mpr ⟨i, fun mt => a ?_, c⟩)
      exact List.mem_filter.mpr ⟨mt, by simpa using z⟩
end K32
end

section
set_option Elab.async false
set_option linter.all false
set_option maxRecDepth 100000
set_option maxHeartbeats 4000000
/-! K32R: further rules of the hand layer: defs told by name, operators of instances, enumerate over a tuple, data sorted and compared, dicts whose keys are ways. -/
namespace K32
open PySem PySem.Spec PyProof.Rows L2

/-! ### defs, told by name -/
structure Cal (P : Program) (w : World) (K : PySem.W.Frag) (mg : Str → Option Value) (base : Heap) (x : Str) (k : Nat) (ps : List Str) (sp : Sp) : Prop where
  ex : ∃ (f : Addr) (fd : FuncData), mg x = some (.ref f) ∧ PySem.W.keepIn K (.ref f) = true ∧ Binds K fd ps [] ∧ FnOk P w K mg base CX0 k f fd ps sp
/-- a method of the class at C -/
structure MCal (P : Program) (w : World) (K : PySem.W.Frag) (mg : Str → Option Value) (base : Heap) (C : Addr) (m : Str) (k : Nat) (ps : List Str) (sp : Sp) : Prop where
  ex : ∃ (f : Addr) (fd : FuncData), Meth K C m f ∧ Binds K fd ps [] ∧ FnOk P w K mg base CX0 k f fd ps sp
/-- the class at C called by its name -/
structure ICal (P : Program) (w : World) (K : PySem.W.Frag) (mg : Str → Option Value) (base : Heap) (x : Str) (C : Addr) (k : Nat) (ps : List Str) (sp : Sp) : Prop where
  ex : ∃ (f : Addr) (fd : FuncData), mg x = some (.ref C) ∧ Mk K C f ∧ Binds K fd ps [] ∧ FnOk P w K mg base CX0 k f fd ps sp
section
variable {X : Cx} {x m : Str} {k : Nat} {ps : List Str} {sp : Sp} {e o : Expr} {es : List Expr} {p pos apos : Pos} {t : TA} {ta : TE} {C : Addr}
theorem pe_cal (c : Cal X.prog X.w X.K X.mg X.base x k ps sp) (hr : Room k X.A) (hg : Gl X x) (ha : PA X (e :: es) t) (hdb : (x == ("__debug__" : Str)) = false := by decide)
    (he : starEach (e :: es) X.env = (false, eval e X.env) :: starEach es X.env := by rfl) (hpl : (backTo pos (starEach es X.env)).any (·.1) = false := by rfl) :
    PE X (.Call (.Name x p) (e :: es) [] pos) (tCall sp [] E0 t) := by
  obtain ⟨f, fd, hm, hk, hb, F⟩ := c.ex
  exact pe_call F hr hg hm hk hb .nil pass0 ha hdb he hpl
theorem pe_mcal {pl : Sem Bool} (c : MCal X.prog X.w X.K X.mg X.base C m k ps sp) (hr : Room k X.A) (cl : Cls X.K C) (he : PE X o ta) (ha : PA X (e :: es) t)
    (hst : starEach (e :: es) X.env = (false, eval e X.env) :: starEach es X.env := by rfl) (hpl : (backTo pos (starEach es X.env)).any (·.1) = false := by rfl)
    (ht : eval (.Call (.Attribute o m apos) (e :: es) [] pos) X.env = (do
      let ov ← eval o X.env
      standAt apos.atName
      let (f, first) ← holding [ov] (getMethod ov m pl)
      callWith pos f first (backTo pos (starEach (e :: es) X.env)) (backToKw pos (keywordEach [] X.env))) := by rfl) :
    PE X (.Call (.Attribute o m apos) (e :: es) [] pos) (tMeth C m sp [] E0 ta t) := by
  obtain ⟨f, fd, hm, hb, F⟩ := c.ex
  exact pe_meth he cl hm F hr hb .nil pass0 ha hst hpl ht
theorem pe_mcal0 {pl : Sem Bool} (c : MCal X.prog X.w X.K X.mg X.base C m k ps sp) (hr : Room k X.A) (cl : Cls X.K C) (he : PE X o ta)
    (ht : eval (.Call (.Attribute o m apos) [] [] pos) X.env = (do
      let ov ← eval o X.env
      standAt apos.atName
      let (f, first) ← holding [ov] (getMethod ov m pl)
      callWith pos f first (backTo pos (starEach [] X.env)) (backToKw pos (keywordEach [] X.env))) := by rfl) :
    PE X (.Call (.Attribute o m apos) [] [] pos) (tMeth C m sp [] E0 ta tNil) := by
  obtain ⟨f, fd, hm, hb, F⟩ := c.ex
  exact pe_meth0 he cl hm F hr hb .nil pass0 ht
theorem pe_ical (c : ICal X.prog X.w X.K X.mg X.base x C k ps sp) (hr : Room (k + 1) X.A) (hg : Gl X x) (ha : PA X (e :: es) t) (hdb : (x == ("__debug__" : Str)) = false := by decide)
    (he : starEach (e :: es) X.env = (false, eval e X.env) :: starEach es X.env := by rfl) (hpl : (backTo pos (starEach es X.env)).any (·.1) = false := by rfl) :
    PE X (.Call (.Name x p) (e :: es) [] pos) (tMake C sp [] E0 t) := by
  obtain ⟨f, fd, hm, M, hb, F⟩ := c.ex
  exact pe_make M F hr hg hm hb .nil pass0 ha hdb he hpl
end

/-! ### a def of the text -/
structure Def (K : PySem.W.Frag) (mg : Str → Option Value) (x : Str) (st : Stmt) (ps : List Str) : Prop where
  ex : ∃ (f : Addr) (fd : FuncData), Fun K x x st f fd ∧ mg x = some (.ref f) ∧ Binds K fd ps []
structure MDef (K : PySem.W.Frag) (C : Addr) (x qual : Str) (st : Stmt) (ps : List Str) : Prop where
  ex : ∃ (f : Addr) (fd : FuncData), Fun K x qual st f fd ∧ Meth K C x f ∧ Binds K fd ps []
section
variable {P : Program} {w : World} {K : PySem.W.Frag} {mg : Str → Option Value} {base : Heap} {x qual : Str} {st : Stmt} {N ps : List Str} {k : Nat} {sp : Sp} {C : Addr}
theorem Def.ok (D : Def K mg x st ps) (S : FnScope N ps (defScope st)) (len : ∀ vs H Q E, sp vs H Q E → vs.length = ps.length)
    (hbody : ∀ (f : Addr) (cdv : Value) (A : Around) (outer : List Env) (s : Shared) (H : Hp) (vs : List V) (Q : VK) (E : XK), Room k (A.deeper (envOfC x (defScope st) s.heap.objs.size f cdv)) → sp vs H Q E →
      ∃ t, PSs (cxOf CX0 P w K mg base N x (defScope st) f cdv A outer s H E).nox (defBody st) t ∧ t { nx := fun _ H' => Q .non H', rt := Q } (start N vs) H) : Cal P w K mg base x (k + 1) ps sp := by
  obtain ⟨f, fd, F, hm, hb⟩ := D.ex
  exact ⟨f, fd, hm, F.kp, hb, F.ok S len (hbody f)⟩
theorem MDef.ok (D : MDef K C x qual st ps) (S : FnScope N ps (defScope st)) (len : ∀ vs H Q E, sp vs H Q E → vs.length = ps.length)
    (hbody : ∀ (f : Addr) (cdv : Value) (A : Around) (outer : List Env) (s : Shared) (H : Hp) (vs : List V) (Q : VK) (E : XK), Room k (A.deeper (envOfC qual (defScope st) s.heap.objs.size f cdv)) → sp vs H Q E →
      ∃ t, PSs (cxOf CX0 P w K mg base N qual (defScope st) f cdv A outer s H E).nox (defBody st) t ∧ t { nx := fun _ H' => Q .non H', rt := Q } (start N vs) H) : MCal P w K mg base C x (k + 1) ps sp := by
  obtain ⟨f, fd, F, hm, hb⟩ := D.ex
  exact ⟨f, fd, hm, hb, F.ok S len (hbody f)⟩
structure IDef (K : PySem.W.Frag) (mg : Str → Option Value) (x : Str) (C : Addr) (qual : Str) (st : Stmt) (ps : List Str) : Prop where
  ex : ∃ (f : Addr) (fd : FuncData), Fun K "__init__" qual st f fd ∧ mg x = some (.ref C) ∧ Mk K C f ∧ Binds K fd ps []
theorem IDef.ok (D : IDef K mg x C qual st ps) (S : FnScope N ps (defScope st)) (len : ∀ vs H Q E, sp vs H Q E → vs.length = ps.length)
    (hbody : ∀ (f : Addr) (cdv : Value) (A : Around) (outer : List Env) (s : Shared) (H : Hp) (vs : List V) (Q : VK) (E : XK), Room k (A.deeper (envOfC qual (defScope st) s.heap.objs.size f cdv)) → sp vs H Q E →
      ∃ t, PSs (cxOf CX0 P w K mg base N qual (defScope st) f cdv A outer s H E).nox (defBody st) t ∧ t { nx := fun _ H' => Q .non H', rt := Q } (start N vs) H) : ICal P w K mg base x C (k + 1) ps sp := by
  obtain ⟨f, fd, F, hm, M, hb⟩ := D.ex
  exact ⟨f, fd, hm, M, hb, F.ok S len (hbody f)⟩
end

/-! ### operators of instances -/
section
variable {X : Cx} {k : Nat} {ps : List Str} {sp : Sp} {C : Addr} {pins : List (Addr × Obj)} {σ : L2.St} {H : Hp} {s : Shared}
theorem run_in {f : Addr} {fd : FuncData} {A : Around} {us : List Value} {vs : List V} {Q : VK} (F : FnOk X.prog X.w X.K X.mg X.base CX0 k f fd ps sp) (room : Room k A) (fr : A.frames = X.A.frames) (hb : Binds X.K fd ps [])
    (I : Inv X pins σ H s) (r : Vals vs us) (hsp : sp vs H Q E0) : wpAny (model X.prog X.w) A (call (.ref f) us) (EP X pins σ Q) X.xe s := by
  have e0 : Env0 X.prog X.w X.K X.mg X.base A X.stack s H := by
    have e := I.env0
    exact ⟨by rw [fr]; exact e.frames, e.mod, e.bs, e.bsz, e.funs, e.frf, e.hok, e.bare⟩
  have hl := F.len _ _ _ _ hsp
  have hl2 := r.length
  refine wpAny_call (codeAny_mono (F.run A X.stack s H ⟨us, []⟩ us vs _ E0 room e0 (by
    have := hb s us I.kIn (by rw [List.append_nil, ← hl2, hl])
    rwa [List.append_nil] at this) r hsp) fun r s' hq => ?_)
  cases r with
  | error e => exact pass0 pins σ H s e s' I hq
  | ok fl =>
    cases fl with
    | ret w => exact I.after hq
    | next => exact False.elim hq
    | brk => exact False.elim hq
    | cont => exact False.elim hq
theorem ep_back {Q : VK} {v : Value} {s' : Shared} (h : EP X pins σ Q v s') : PySem.W.CmpBack (EP X pins σ Q) v s' := by
  obtain ⟨y, H', I, r, q⟩ := id h
  cases y with
  | non => cases r; exact h
  | bl _ => cases r; exact h
  | int _ => obtain ⟨t, rfl⟩ := r; exact h
  | str _ => obtain ⟨t, rfl⟩ := r; exact h
  | byt _ => obtain ⟨t, rfl⟩ := r; exact h
  | flt _ => obtain ⟨t, rfl⟩ := r; exact h
  | ref _ => cases r; exact h
  | ty _ => cases r; exact h
/-- x op y, both instances of the class at C -/
def rIns (C : Addr) (sp : Sp) : R2 := fun x y H Q => ∃ a b dx dy fs gs, x = .ref a ∧ y = .ref b ∧ H a = some (.ins C dx fs) ∧ H b = some (.ins C dy gs) ∧ sp [x, y] H Q E0
theorem op_ins {op : Operator} (c : MCal X.prog X.w X.K X.mg X.base C (PySem.dunder op.info.2) k ps sp) (hr : Room k X.A) (sf : PySem.W.selfFirst X.K C = true) : OpR X (binaryOp op) (rIns C sp) := by
  intro pins s σ H x y v u Q I rx ry h
  obtain ⟨a, b, dx, dy, fs, gs, rfl, rfl, ha, hb', hsp⟩ := h
  cases rx
  cases ry
  obtain ⟨f, fd, hm, hb, F⟩ := c.ex
  obtain ⟨mA, J, _⟩ := ins_get I.hok ha
  obtain ⟨mB, J', _⟩ := ins_get I.hok hb'
  obtain ⟨od, J, _⟩ := J.look
  obtain ⟨od', J', _⟩ := J'.look
  obtain ⟨m, hF⟩ := I.fr
  exact PySem.W.binop_K hF I.ok.mod.kin J J'.type sf hm.at_ hm.fn (thn (run_in F hr rfl hb I (show Vals [V.ref a, V.ref b] [Value.ref a, Value.ref b] from .cons rfl (.cons rfl .nil)) hsp) fun v s' q => ep_back q)
theorem op_eqIns (c : MCal X.prog X.w X.K X.mg X.base C "__eq__" k ps sp) (hr : Room k X.A) : OpR X (compareOp .Eq) (rIns C sp) := by
  intro pins s σ H x y v u Q I rx ry h
  obtain ⟨a, b, dx, dy, fs, gs, rfl, rfl, ha, hb', hsp⟩ := h
  cases rx
  cases ry
  obtain ⟨f, fd, hm, hb, F⟩ := c.ex
  obtain ⟨mA, J, _⟩ := ins_get I.hok ha
  obtain ⟨mB, J', _⟩ := ins_get I.hok hb'
  obtain ⟨od, J, _⟩ := J.look
  obtain ⟨od', J', _⟩ := J'.look
  obtain ⟨m, hF⟩ := I.fr
  show wpAny (model X.prog X.w) X.A (richCompare .Eq (.ref a) (.ref b)) (EP X pins σ Q) X.xe s
  exact PySem.W.cmp_K (op := .Eq) (tb := .ref C) hr.units0 hF I.ok.mod.kin J J'.type (by simp [PySem.W.notFirst]) hm.at_ hm.fn (thn (run_in F hr rfl hb I (show Vals [V.ref a, V.ref b] [Value.ref a, Value.ref b] from .cons rfl (.cons rfl .nil)) hsp) fun v s' q => ep_back q)

/-- object's own != asks == -/
def spNot (sp : Sp) : Sp := fun vs H Q E => sp vs H (fun v H' => ∃ b, v = .bl b ∧ Q (.bl (!b)) H') E
theorem op_neIns (c : MCal X.prog X.w X.K X.mg X.base C "__eq__" k ps sp) (hr : Room (k + 1) X.A) (hne : PySem.W.findIn X.K (.ref C) "__ne__" = some (some (.builtin "object.__ne__")))
    (hob : PySem.W.subIn X.K (.ref C) (.type "object") = some true) : OpR X (compareOp .NotEq) (rIns C (spNot sp)) := by
  intro pins s σ H x y v u Q I rx ry h
  obtain ⟨a, b, dx, dy, fs, gs, rfl, rfl, ha, hb', hsp⟩ := h
  cases rx
  cases ry
  obtain ⟨f, fd, hm, hb, Fk⟩ := c.ex
  obtain ⟨mA, J, _⟩ := ins_get I.hok ha
  obtain ⟨mB, J', _⟩ := ins_get I.hok hb'
  obtain ⟨od, J, _⟩ := J.look
  obtain ⟨od', J', _⟩ := J'.look
  have X0 := I.kIn
  obtain ⟨m, hF⟩ := I.fr
  have hu : X.A.in1.units < cLine := (hr.in1).units0
  -- the builtin's body: not (a == b)
  have body : wpAny (model X.prog X.w) X.A (call (.builtin "object.__ne__") [.ref a, .ref b]) (EP X pins σ Q) X.xe s := by
    refine wpAny_call (codeAny_call_builtin F.cmp_object.ne.plain F.cmpEntry_ne (PySem.W.check_slot F.cmpKind_ne F.cmpSplit_ne ?_ (F.cmpArgs_ne _ _) ?_))
    · unfold isInstance
      exact J.type.andThen (PySem.W.looks_subIn X0 hob)
    · unfold Builtin.«object.__ne__»
      refine wpAny_bind (wpAny_pure ?_)
      refine wpAny_bind (wpAny_cRoomFor hu ?_)
      refine wpAny_bind (PySem.W.ifBound_K X0 J hm.at_ hm.fn (thn (run_in Fk hr.in1 rfl hb I (show Vals [V.ref a, V.ref b] [Value.ref a, Value.ref b] from .cons rfl (.cons rfl .nil)) hsp) fun v s' q => ?_))
      obtain ⟨y, H', I', r, k, rfl, q⟩ := q
      cases r
      exact wpAny_bind (wpAny_truthy_bool (wpAny_pure ⟨.bl (!k), H', I', rfl, q⟩))
  have inner : wpAny (model X.prog X.w) X.A (tryCompare (.ref a) "__ne__" (.ref b)) (fun r s' => ∃ v, r = some v ∧ EP X pins σ Q v s') X.xe s := by
    unfold tryCompare
    have fin : wpAny (model X.prog X.w) X.A (callSpecialIfBound? (.ref a) "__ne__" [.ref b]) (fun r s' => ∃ v, r = some v ∧ EP X pins σ Q v s') X.xe s := by
      simp only [callSpecialIfBound?, bindSpecialIfBound?]
      refine wpAny_holding (wpAny_bind (wpAny_bind (wpAny_bind (J.type.here ((PySem.W.looks_findIn X0 hne).here ?_)))))
      simp only [F.cmp_object.ne.bind]
      refine wpAny_bind (wpAny_askSetting (wpAny_ite ?_))
      have last : wpAny (model X.prog X.w) X.A (call (.builtin "object.__ne__") ([.ref a] ++ [.ref b]) >>= fun v => pure (some v)) (fun r s' => ∃ v, r = some v ∧ EP X pins σ Q v s') X.xe s :=
        wpAny_bind (wpAny_mono body (fun v s' h' => wpAny_pure ⟨v, rfl, h'⟩) fun _ _ h' => h')
      split
      · exact wpAny_bind (wpAny_pure (wpAny_pure last))
      · exact wpAny_tryCatch (wpAny_bind (wpAny_pure (wpAny_pure last)))
    refine wpAny_bind (thn fin fun r s' q => ?_)
    obtain ⟨v, rfl, q⟩ := q
    have q2 := ep_back q
    cases v <;> first | exact q2.elim | exact wpAny_pure ⟨_, rfl, q⟩
  show wpAny (model X.prog X.w) X.A (richCompare .NotEq (.ref a) (.ref b)) (EP X pins σ Q) X.xe s
  unfold richCompare
  simp only [oneThing_ref]
  refine wpAny_holding (wpAny_bind (wpAny_cRoomFor hr.units0 ?_))
  refine wpAny_bind (J.type.here (wpAny_bind (J'.type.here ?_)))
  simp only [bne_self_eq_false, Bool.false_eq_true, if_false]
  refine wpAny_bind (wpAny_pure ?_)
  simp only [Bool.false_eq_true, if_false]
  refine wpAny_bind (thn inner fun r s' q => ?_)
  obtain ⟨v, rfl, q⟩ := q
  exact wpAny_pure q
end
end K32
end

section
set_option Elab.async false
set_option linter.all false
set_option maxRecDepth 100000
set_option maxHeartbeats 4000000
/-! K32S: enumerate over a tuple. -/
namespace K32
open PySem PySem.Spec PyProof.Rows L2

theorem meets_enum1 {v : Value} {o : Obj} {H : Heap → Prop} (B : Begins v o H) :
    Meets (Builtin.«enumerate.__new__» ⟨[.type "enumerate", v], []⟩) (fun _ R s => H s.heap ∧
      R (.ok (.ret (.ref (s.heap.push o).objs.size))) { s with heap := (s.heap.push o).push { cls := .type "enumerate", data := .fields #[.none, .bool false, .ref s.heap.objs.size, rawInt 0, .none, .none] } }) :=
  .of_wp fun prog w A R s h => by
    obtain ⟨hp, g, d, tk, os⟩ := s; obtain ⟨h1, h⟩ := h
    have hsub := sub_enumerate
    have q1 : ∀ {A' : Around} {E : Value → Shared → Prop} {Q : Value → Shared → Prop}, Q (.ref hp.objs.size) ⟨hp.push o, g, d, tk, os⟩ → wpAny (model prog w) A' (pyIter v) Q E ⟨hp, g, d, tk, os⟩ :=
      fun q => B.iter prog w _ _ ⟨hp, g, d, tk, os⟩ _ h1 q
    wp_walk using q1
    refine wpAny_stack_any fun st => wpAny_pure ?_
    split
    · rename_i c _ _ _ _ _
      cases (c == Value.type "enumerate")
      · wp_walk using q1
        exact ⟨_, rfl, h⟩
      · wp_walk using q1
        exact ⟨_, rfl, h⟩
    · wp_walk using q1
      exact ⟨_, rfl, h⟩
section
variable {prog : Program} {w : World} {A : Around} {E : Value → Shared → Prop} {s : Shared}
theorem enum1_begins {v : Value} {o : Obj} {H : Heap → Prop} {Q : Value → Shared → Prop} (B : Begins v o H) (h1 : H s.heap)
    (h : ∀ h', IsEnum h' (s.heap.objs.size + 1) s.heap.objs.size 0 .none → h'.get? s.heap.objs.size = some o → h'.objs.size = s.heap.objs.size + 2 →
      (∀ b o, s.heap.get? b = some o → h'.get? b = some o) → Q (.ref (s.heap.objs.size + 1)) { s with heap := h' }) :
    wpAny (model prog w) A (call (.type "enumerate") [v]) Q E s := by
  refine callType_new F.called_enumerate (by decide) (F.typeCall_enumerate_1 _) (F.newCall_enumerate_1 _) (fun obj => F.args_object_init_2 obj _) F.entry_enumerate_new
    (meets_enum1 B) ⟨h1, ?_⟩
  have hz : (s.heap.push o).objs.size = s.heap.objs.size + 1 := Heap.size_push ..
  show _ ∧ _
  rw [hz]
  have he : IsEnum ((s.heap.push o).push { cls := .type "enumerate", data := .fields #[.none, .bool false, .ref s.heap.objs.size, rawInt 0, .none, .none] }) (s.heap.objs.size + 1) s.heap.objs.size 0 .none := by
    have := Heap.get?_push_size (s.heap.push o) (o := { cls := .type "enumerate", data := .fields #[.none, .bool false, .ref s.heap.objs.size, rawInt 0, .none, .none] }) rfl
    rw [hz] at this; exact this
  refine ⟨⟨_, he, rfl⟩, h _ he (Heap.get?_push_of_some _ (Heap.get?_push_size _ B.free)) (by rw [Heap.size_push, hz]) fun b o x => Heap.get?_push_of_some _ (Heap.get?_push_of_some _ x)⟩
end

/-- the tuple at a, each item in a new pair -/
def IteT (K : PySem.W.Frag) (a : Addr) : It :=
  ⟨fun i H => ∃ (xs : List V) (x : V), SqT K H a xs ∧ xs[i]? = some x, fun i H v H' => ∃ T x, v = .ref T ∧ H T = none ∧ H' = upd H T (.tup [.int (i : Nat), x]) ∧ ∀ xs, SqT K H a xs → xs[i]? = some x, fun i H => ∃ xs : List V, SqT K H a xs ∧ xs.length ≤ i⟩
theorem turn_enumT {P : Program} {w : World} {K : PySem.W.Frag} {elts : List Expr} {kk : Nat} {tpos : Pos} (a e it : Addr) :
    Turn P w K (.Tuple elts kk tpos) (IteT K a) [e, it] e (fun i h => (∃ old, IsEnum h e it ((i : Nat) : Int) old) ∧ h.IsTupleIter it a i ∧ e ≠ it ∧ a ≠ it) where
  mem := by simp
  obj := fun i h st b hb => by
    obtain ⟨⟨old, he⟩, ⟨o, ho, hc, hd⟩, _⟩ := st
    have e' : b = e ∨ b = it := by simpa using hb
    rcases e' with z | z
    · rw [z]; exact ⟨_, he, fun v q => nomatch q⟩
    · rw [z]; exact ⟨o, ho, fun v q => by rw [hd] at q; cases q⟩
  keep := fun i h h' st k => let ⟨⟨old, he⟩, hi, hne, hna⟩ := st; ⟨⟨old, k e (by simp) _ he⟩, hi.at fun o q => k it (by simp) o q, hne, hna⟩
  item := by
    intro X hP hw hK hc i pins s σ H E I hf st hg
    subst hP hw hK
    obtain ⟨⟨old, he⟩, hit, hne, hna⟩ := st
    obtain ⟨xs, x, hq, hx⟩ := hg
    obtain ⟨its, rv, p, hz⟩ := I.tuple hq
    obtain ⟨u, hu, ru⟩ := rv.get hx
    have hel : e < s.heap.objs.size := Heap.lt_size he
    have hil : it < s.heap.objs.size := by obtain ⟨_, q, _⟩ := hit; exact Heap.lt_size q
    have hlt : i < its.toArray.size := by
      have := (List.getElem?_eq_some_iff.mp hu).1
      simpa using this
    have hea : e ≠ a := fun z => by
      obtain ⟨o, ho, hcl, _⟩ := p
      rw [← z, he] at ho
      cases ho
      exact absurd (Value.type.inj hcl) (by decide)
    refine wpAny_pyNext_enum_itemD (Draws.tuple (A := X.A.in1) (I.ok.hd hc) it a hna its.toArray) he ⟨hit, p⟩ hlt hne (by simp [hne, hea]) fun y h' tk hP ho st' hT hsz hk => ?_
    have ey : y = u := by
      have q : its.toArray[i]? = some u := by simpa using hu
      rw [q] at hP
      exact (Option.some.inj hP).symm
    subst ey
    refine ⟨_, rfl, wpAny_letOwnedTupleGo_enum (s := { s with heap := h', toks := tk + 1 }) ho fun h'' he' sb => ?_⟩
    have hT2 : h''.get? s.heap.objs.size = some { cls := .type "tuple", data := .seq #[.int i tk, y] } := (sb.2 _ (Nat.ne_of_gt hel)).trans hT
    have new : ObjOk X.prog X.w (upd H s.heap.objs.size (.tup [.int (i : Nat), x])) h'' s.heap.objs.size (.tup [.int (i : Nat), x]) :=
      ⟨by show 2 ≤ sizeLine; decide, [.int i tk, y], .cons ⟨_, rfl⟩ (.cons ru .nil), ⟨_, hT2, rfl, _, rfl⟩⟩
    have I1 : Inv X pins σ (upd H s.heap.objs.size (.tup [.int (i : Nat), x])) { s with heap := h'', toks := tk + 1 } :=
      I.turnedNew (ch := [e, it]) (fun b ob hb q => (sb.2 b (fun z => hb (by simp [z]))).trans (hk b ob (fun z => hb (by simp [z])) (fun z => hb (by simp [z])) q)) hf (Nat.le_refl _) new
    refine ⟨.ref s.heap.objs.size, _, I1, rfl, ⟨_, x, rfl, I.hok.fresh (Nat.le_refl _), rfl, fun ys hy => by rw [I.tuple_inj hy hq]; exact hx⟩, ⟨⟨y, ?_⟩, st'.1.at fun o q => (sb.2 it (Ne.symm hne)).trans q, hne, hna⟩, fun b hb => ?_⟩
    · have e1 : ((i + 1 : Nat) : Int) = (i : Int) + 1 := by omega
      rw [e1]; exact he'
    · have hb' : b < s.heap.objs.size := by
        have e' : b = e ∨ b = it := by simpa using hb
        rcases e' with z | z
        · rw [z]; exact hel
        · rw [z]; exact hil
      rw [upd_ne (Nat.ne_of_lt hb')]
      exact (hf b hb).1
  done := by
    intro X hP hw hK hc i pins s σ H E I hf st hg
    subst hP hw hK
    obtain ⟨⟨old, he⟩, hit, hne, hna⟩ := st
    obtain ⟨xs, hq, hx⟩ := hg
    obtain ⟨its, rv, p, hz⟩ := I.tuple hq
    obtain ⟨f0, f1, f2, f3, f4, f5⟩ := hf it (by simp)
    have hl := rv.length
    -- the iterator's end lies at its length or beyond
    by_cases hi : i = its.toArray.size
    · subst hi
      exact wpAny_pyNext_enum_endD (Draws.tuple (A := X.A.in1) (I.ok.hd hc) it a hna its.toArray) he ⟨hit, p⟩ fun h' eb => ⟨rfl, I.turned (t' := s.toks) (fun b o hb q => eb b o hb q) f0 f1 f3 f4 f5⟩
    · exact wpAny_pyNext_enum_endD (fp := [it, a]) (n := i) (P := fun _ _ => False) (St := fun j h => j = i ∧ h.IsTupleIter it a i ∧ h.IsTuple a its.toArray) ⟨fun _ _ st => let ⟨o, ho, _⟩ := st.2.1; ⟨o, ho⟩,
        fun _ _ _ st hk => ⟨st.1, st.2.1.at fun o q => hk it (by simp) o q, st.2.2.at fun o q => hk a (by simp) o q⟩, fun j s Q E hj st _ => absurd st.1 (Nat.ne_of_lt hj), fun s Q E st hE => wpAny_nextOf_tuple_end (I.ok.hd hc) st.2.1 st.2.2 (by simp; omega) hE⟩ he ⟨rfl, hit, p⟩ fun h' eb => ⟨rfl, I.turned (t' := s.toks) (fun b o hb q => eb b o hb q) f0 f1 f3 f4 f5⟩
  self := fun A i s Q E st h => let ⟨⟨_, he⟩, _⟩ := st; wpAny_pyIter_enum he h
def iEnumT (K : PySem.W.Frag) (ta : TA) : TI := fun σ H R => ta σ H fun vs H1 => ∃ a xs, vs = [.ref a] ∧ SqT K H1 a xs ∧ R (IteT K a) H1
theorem pi_enumT {X : Cx} {e : Expr} {ta : TA} {p pos tpos : Pos} {elts : List Expr} {kk : Nat} (hg : Gl X "enumerate") (hm : X.mg "enumerate" = none) (ha : PA X [e] ta)
    (hs : starEach [e] X.env = (false, eval e X.env) :: starEach [] X.env := by rfl) (hpl : (backTo pos (starEach [] X.env)).any (·.1) = false := by rfl) :
    PI X (.Tuple elts kk tpos) (.Call (.Name "enumerate" p) [e] [] pos) (iEnumT X.K ta) := by
  refine ⟨fun pins s σ H R I h => ?_⟩
  refine Call_ (ld_blt I hg hm PyProof.Rows.boot_enumerate (PyProof.Rows.callWith_type1 (thn (ha.run pos pins s σ H _ I h) fun us s1 ⟨vs, H1, I1, r1, q1⟩ => ?_) hs hpl))
  obtain ⟨a, xs, ex, hq, q⟩ := q1
  subst ex
  cases r1 with
  | cons r rr =>
    cases rr
    cases r
    obtain ⟨its, rv, p1, _⟩ := I1.tuple hq
    have hal : a < s1.heap.objs.size := by obtain ⟨o, ho, _⟩ := p1; exact Heap.lt_size ho
    refine enum1_begins (begins_tuple a its.toArray) (show s1.heap.IsTuple a its.toArray from p1) fun h' he hit hsz hk => wpAny_pyIter_enum he ?_
    have I2 : Inv X pins σ H1 { s1 with heap := h' } := I1.kept (t' := s1.toks) hk
    refine ⟨s1.heap.objs.size + 1, [s1.heap.objs.size + 1, s1.heap.objs.size], _, _, H1, rfl, I2, turn_enumT a (s1.heap.objs.size + 1) s1.heap.objs.size, ⟨⟨_, he⟩, ⟨_, hit, rfl, rfl⟩, Nat.succ_ne_self _, Nat.ne_of_lt hal⟩, fun c hc => ?_, q⟩
    have hle : s1.heap.objs.size ≤ c := by
      have e' : c = s1.heap.objs.size + 1 ∨ c = s1.heap.objs.size := by simpa using hc
      rcases e' with z | z
      · rw [z]; exact Nat.le_succ _
      · rw [z]; exact Nat.le_refl _
    exact I1.fpOk hle (I1.hok.fresh hle)
theorem walk_enumT {K : PySem.W.Frag} {a : Addr} {xs : List V} : Walk (IteT K a) xs.length (fun H => SqT K H a xs) (YPair (fun i => some (.int (i : Nat))) (fun i => xs[i]?)) := by
  refine ⟨fun i _ hi q => ⟨xs, xs[i], q, by simp [hi]⟩, fun _ q => ⟨xs, q, Nat.le_refl _⟩, fun i H v H' _ q y => ?_⟩
  obtain ⟨T, x, h1, h2, h3, h4⟩ := y
  exact ⟨T, .int (i : Nat), x, h1, h2, h3, rfl, h4 xs q⟩
theorem walk_zipT {K : PySem.W.Frag} {a b : Addr} {xs ys : List V} {n : Nat} (hn : n = min xs.length ys.length) : Walk (RZ.ItzT K a b) n (fun H => SqT K H a xs ∧ SqT K H b ys) (YPair (fun i => xs[i]?) (fun i => ys[i]?)) := by
  subst hn
  refine ⟨fun i _ hi q => ?_, fun _ q => ⟨xs, ys, q.1, q.2, by omega⟩, fun i H v H' _ q y => ?_⟩
  · have h1 : i < xs.length := by omega
    have h2 : i < ys.length := by omega
    exact ⟨xs, ys, xs[i], ys[i], q.1, q.2, by simp [h1], by simp [h2]⟩
  · obtain ⟨T, x, z, h1, h2, h3, h4, h5⟩ := y
    exact ⟨T, x, z, h1, h2, h3, h4 xs q.1, h5 ys q.2⟩
end K32
end

section
set_option Elab.async false
set_option linter.all false
set_option maxRecDepth 100000
set_option maxHeartbeats 4000000
/-! K32T: data sorted, the least of data, == of data, repr of a tuple, a dict whose keys are ways. -/
namespace K32
open PySem PySem.Spec PyProof.Rows L2

/-! ### data stays -/
theorem Same.sqT {K : PySem.W.Frag} {H H' : Hp} {a : Addr} {xs : List V} (e : Same H H') (h : SqT K H a xs) : SqT K H' a xs := h.ext e
theorem Same.sqL {K : PySem.W.Frag} {H H' : Hp} {a : Addr} {xs : List V} (e : Same H H') (h : SqL K H a xs) : SqL K H' a xs := e.seq h
mutual
theorem dp_same {K : PySem.W.Frag} {H H' : Hp} (e : Same H H') : ∀ {v : V} {d : PyData}, Dp K H v d → Dp K H' v d
  | _, _, .non => .non
  | _, _, .bl b => .bl b
  | _, _, .int i => .int i
  | _, _, .str x => .str x
  | _, _, .lst h a => .lst (e.seq h) (dpAll_same e a)
  | _, _, .tup h a => .tup (h.ext e) (dpAll_same e a)
theorem dpAll_same {K : PySem.W.Frag} {H H' : Hp} (e : Same H H') : ∀ {vs : List V} {ds : List PyData}, DpAll K H vs ds → DpAll K H' vs ds
  | _, _, .nil => .nil
  | _, _, .cons a b => .cons (dp_same e a) (dpAll_same e b)
end
theorem same_upd {H : Hp} {p : Addr} {o : HO} (h : H p = none) : Same H (upd H p o) := fun b x e => by
  rw [upd_ne (ne_of_none e h)]
  exact e
/-- what an entry did not know may change -/
theorem Same.mut {H H' : Hp} {p : Addr} {o : HO} (e : Same H H') (h : H p = none) : Same H (upd H' p o) := fun b x q => by
  rw [upd_ne (ne_of_none q h)]
  exact e b x q
theorem dpAll_len {K : PySem.W.Frag} {H : Hp} : ∀ {vs : List V} {ds : List PyData}, DpAll K H vs ds → vs.length = ds.length
  | _, _, .nil => rfl
  | _, _, .cons _ b => by rw [List.length_cons, List.length_cons, dpAll_len b]
theorem dpAll_app {K : PySem.W.Frag} {H : Hp} : ∀ {vs us : List V} {ds es : List PyData}, DpAll K H vs ds → DpAll K H us es → DpAll K H (vs ++ us) (ds ++ es)
  | _, _, _, _, .nil, k => k
  | _, _, _, _, .cons a b, k => .cons a (dpAll_app b k)
theorem dpAll_get {K : PySem.W.Frag} {H : Hp} : ∀ {vs : List V} {ds : List PyData} {i : Nat} {d : PyData}, DpAll K H vs ds → ds[i]? = some d → ∃ v, vs[i]? = some v ∧ Dp K H v d
  | _, _, _, _, .nil, e => by simp at e
  | _, _, 0, _, .cons a _, e => by
    simp at e
    subst e
    exact ⟨_, rfl, a⟩
  | _, _, i + 1, d, .cons _ b, e => by
    obtain ⟨v, h1, h2⟩ := dpAll_get (i := i) (d := d) b (by simpa using e)
    exact ⟨v, by simpa using h1, h2⟩
theorem dpAll_get' {K : PySem.W.Frag} {H : Hp} : ∀ {vs : List V} {ds : List PyData} {i : Nat} {v : V}, DpAll K H vs ds → vs[i]? = some v → ∃ d, ds[i]? = some d ∧ Dp K H v d
  | _, _, _, _, .nil, e => by simp at e
  | _, _, 0, _, .cons a _, e => by
    simp at e
    subst e
    exact ⟨_, rfl, a⟩
  | _, _, i + 1, v, .cons _ b, e => by
    obtain ⟨d, h1, h2⟩ := dpAll_get' (i := i) (v := v) b (by simpa using e)
    exact ⟨d, by simpa using h1, h2⟩
theorem dpAll_take {K : PySem.W.Frag} {H : Hp} : ∀ {vs : List V} {ds : List PyData} (n : Nat), DpAll K H vs ds → DpAll K H (vs.take n) (ds.take n)
  | _, _, 0, _ => .nil
  | _, _, _ + 1, .nil => .nil
  | _, _, n + 1, .cons a b => .cons a (dpAll_take n b)
theorem dpAll_drop {K : PySem.W.Frag} {H : Hp} : ∀ {vs : List V} {ds : List PyData} (n : Nat), DpAll K H vs ds → DpAll K H (vs.drop n) (ds.drop n)
  | _, _, 0, h => h
  | _, _, _ + 1, .nil => .nil
  | _, _, n + 1, .cons _ b => dpAll_drop n b
theorem dpAll_rev {K : PySem.W.Frag} {H : Hp} : ∀ {vs : List V} {ds : List PyData}, DpAll K H vs ds → DpAll K H vs.reverse ds.reverse
  | _, _, .nil => .nil
  | _, _, .cons a b => by
    rw [List.reverse_cons, List.reverse_cons]
    exact dpAll_app (dpAll_rev b) (.cons a .nil)
theorem dpAll_ints {K : PySem.W.Frag} {H : Hp} : ∀ ns : List Int, DpAll K H (ns.map V.int) (ns.map PyData.int)
  | [] => .nil
  | n :: ns => .cons (.int n) (dpAll_ints ns)
theorem dpAll_ints_inv {K : PySem.W.Frag} {H : Hp} : ∀ {ns : List Int} {vs : List V}, DpAll K H vs (ns.map PyData.int) → vs = ns.map V.int
  | [], _, .nil => rfl
  | n :: ns, _, .cons a b => by
    cases a
    rw [dpAll_ints_inv b]
    rfl

/-! ### the data of this program -/
def encL (l : List Int) : PyData := .tuple (l.map .int)
def encP (p : Int × Int) : PyData := .tuple [.int p.1, .int p.2]
def encW (r : Way) : PyData := .tuple (r.map encP)
def encZ (l : List Int) : PyData := .tuple [.int l.length, encL l]
theorem alike_ints' : ∀ a b : List Int, PySem.W.alikeAll (a.map PyData.int) (b.map PyData.int) = true
  | [], b => by simp [PySem.W.alikeAll]
  | _ :: _, [] => by simp [PySem.W.alikeAll]
  | x :: a, y :: b => by
    simp only [List.map_cons, PySem.W.alikeAll, PySem.W.alike, Bool.true_and]
    exact alike_ints' a b
theorem alike_L (a b : List Int) : PySem.W.alike (encL a) (encL b) = true := by
  simp only [encL, PySem.W.alike]
  exact alike_ints' a b
theorem alike_Z (a b : List Int) : PySem.W.alike (encZ a) (encZ b) = true := by
  simp only [encZ, PySem.W.alike, PySem.W.alikeAll, alike_L, Bool.and_self]
theorem alike_P (p q : Int × Int) : PySem.W.alike (encP p) (encP q) = true := by
  simp [encP, PySem.W.alike, PySem.W.alikeAll]
theorem alike_Ws : ∀ a b : Way, PySem.W.alikeAll (a.map encP) (b.map encP) = true
  | [], b => by simp [PySem.W.alikeAll]
  | _ :: _, [] => by simp [PySem.W.alikeAll]
  | x :: a, y :: b => by
    simp only [List.map_cons, PySem.W.alikeAll, alike_P, Bool.true_and]
    exact alike_Ws a b
theorem alike_W (a b : Way) : PySem.W.alike (encW a) (encW b) = true := by
  simp only [encW, PySem.W.alike]
  exact alike_Ws a b
theorem depth_ints' : ∀ a : List Int, PyData.depthAll (a.map PyData.int) = 0
  | [] => by simp [PyData.depthAll]
  | x :: a => by simp [PyData.depthAll, PyData.depth, depth_ints' a]
theorem depth_L (a : List Int) : (encL a).depth ≤ 1 := by
  simp [encL, PyData.depth, depth_ints']
theorem depth_Z (a : List Int) : (encZ a).depth ≤ 2 := by
  simp [encZ, encL, PyData.depth, PyData.depthAll, depth_ints']
theorem depth_P (p : Int × Int) : (encP p).depth = 1 := by
  simp [encP, PyData.depth, PyData.depthAll]
theorem depth_Ws : ∀ a : Way, PyData.depthAll (a.map encP) ≤ 1
  | [] => by simp [PyData.depthAll]
  | x :: a => by
    have := depth_Ws a
    simp [PyData.depthAll, depth_P]
    omega
theorem depth_W (a : Way) : (encW a).depth ≤ 2 := by
  have := depth_Ws a
  simp [encW, PyData.depth]
  omega
theorem plain_ints : ∀ a : List Int, PyData.plainAll (a.map PyData.int) = true
  | [] => by simp [PyData.plainAll]
  | x :: a => by simp [PyData.plainAll, PyData.plain, plain_ints a]
theorem plain_L (a : List Int) : (encL a).plain = true := by
  simp [encL, PyData.plain, plain_ints]
theorem plain_Ws : ∀ a : Way, PyData.plainAll (a.map encP) = true
  | [] => by simp [PyData.plainAll]
  | x :: a => by simp [PyData.plainAll, encP, PyData.plain, plain_Ws a]
theorem plain_W (a : Way) : (encW a).plain = true := by
  simp [encW, PyData.plain, plain_Ws]
theorem eqv_ints : ∀ a b : List Int, PyData.eqvAll (a.map PyData.int) (b.map PyData.int) = decide (a = b)
  | [], [] => by simp [PyData.eqvAll]
  | [], _ :: _ => by simp [PyData.eqvAll]
  | _ :: _, [] => by simp [PyData.eqvAll]
  | x :: a, y :: b => by
    simp only [List.map_cons, PyData.eqvAll, PyData.eqv, eqv_ints a b]
    by_cases h : x = y <;> by_cases k : a = b <;> simp [h, k]
theorem eqv_L (a b : List Int) : PyData.eqv (encL a) (encL b) = decide (a = b) := by
  simp only [encL, PyData.eqv]
  exact eqv_ints a b
theorem eqv_P (p q : Int × Int) : PyData.eqv (encP p) (encP q) = decide (p = q) := by
  obtain ⟨a, b⟩ := p
  obtain ⟨c, d⟩ := q
  simp only [encP, PyData.eqv, PyData.eqvAll]
  by_cases h : a = c <;> by_cases k : b = d <;> simp [h, k]
theorem eqv_Ws : ∀ a b : Way, PyData.eqvAll (a.map encP) (b.map encP) = decide (a = b)
  | [], [] => by simp [PyData.eqvAll]
  | [], _ :: _ => by simp [PyData.eqvAll]
  | _ :: _, [] => by simp [PyData.eqvAll]
  | x :: a, y :: b => by
    simp only [List.map_cons, PyData.eqvAll, eqv_P, eqv_Ws a b]
    by_cases h : x = y <;> by_cases k : a = b <;> simp [h, k]
/-- the order of ways -/
theorem dataLt_P (p q : Int × Int) : PySem.W.dataLt (encP p) (encP q) = pLt p q := by
  unfold encP pLt
  exact PySem.W.dataLt_ii p.1 p.2 q.1 q.2
theorem lex_Ws : ∀ a b : Way, PyProof.Rows.lexLt itemOrd (PySem.W.keyToksAll (a.map encP)) (PySem.W.keyToksAll (b.map encP)) = lexR a b
  | [], [] => by
    show PyProof.Rows.lexLt itemOrd [Sum.inl 0] [Sum.inl 0] = false
    decide
  | [], y :: b => by
    rw [List.map_cons, PySem.W.toks_all_cons]
    show PyProof.Rows.lexLt itemOrd [Sum.inl 0] (Sum.inl 1 :: _) = true
    rfl
  | x :: a, [] => by
    rw [List.map_cons, PySem.W.toks_all_cons]
    show PyProof.Rows.lexLt itemOrd (Sum.inl 1 :: _) [Sum.inl 0] = false
    rfl
  | x :: a, y :: b => by
    rw [List.map_cons, List.map_cons, PySem.W.dataLt_cons (alike_P x y), eqv_P, lex_Ws a b, dataLt_P, lexR]
    by_cases h : x = y <;> simp [h]
theorem dataLt_W (a b : Way) : PySem.W.dataLt (encW a) (encW b) = lexR a b := by
  rw [encW, encW, PySem.W.dataLt_tuple]
  exact lex_Ws a b
theorem minD_W : ∀ (xs : List Way) (x : Way), PySem.W.minD (encW x) (xs.map encW) = encW (minR x xs)
  | [], x => rfl
  | y :: ys, x => by
    show PySem.W.minD (if PySem.W.dataLt (encW y) (encW x) = true then encW y else encW x) (ys.map encW) = encW (minR (if lexR y x = true then y else x) ys)
    rw [dataLt_W]
    split
    · exact minD_W ys y
    · exact minD_W ys x
/-- shorter ones come first -/
theorem le_Z {a b : List Int} (h : PySem.W.dataLe false encZ a b = true) : a.length ≤ b.length := by
  rw [PySem.W.dataLe_eq] at h
  simp only [cond_false] at h
  have e : PySem.W.dataLt (encZ b) (encZ a) = false := by simpa using h
  rw [encZ, encZ, PySem.W.dataLt_tuple, PySem.W.dataLt_cons (by simp [PySem.W.alike])] at e
  by_cases c : b.length = a.length
  · omega
  · have ne : ¬ PyData.eqv (.int (b.length : Int)) (.int (a.length : Int)) = true := by
      simp only [PyData.eqv, beq_iff_eq]
      omega
    rw [if_neg ne, PySem.W.dataLt_int] at e
    have := of_decide_eq_false e
    omega
end K32
end

section
set_option Elab.async false
set_option linter.all false
set_option maxRecDepth 100000
set_option maxHeartbeats 4000000
/-! K32U: sorted, min, ==, repr of data; a dict whose keys are ways. -/
namespace K32
open PySem PySem.Spec PyProof.Rows L2

/-! ### sorted -/
section
variable {X : Cx} {pins : List (Addr × Obj)} {σ : L2.St} {H : Hp} {s : Shared} {β : Type} {enc : β → PyData}
theorem each_of {R : Value → β → Prop} : ∀ {us : List Value} {xs : List V} {bs : List β}, Vals xs us → DpAll X.K H xs (bs.map enc) → (∀ x u b, RelV x u → Dp X.K H x (enc b) → R u b) → PySem.W.EachIs R us bs
  | _, _, [], .nil, .nil, _ => .nil
  | _, _, b :: bs, .cons r rr, .cons d dd, f => .cons (f _ _ _ r d) (each_of rr dd f)
theorem each_back : ∀ {us : List Value} {bs : List β}, PySem.W.EachIs (fun u b => ∃ x, RelV x u ∧ Dp X.K H x (enc b)) us bs → ∃ xs, Vals xs us ∧ DpAll X.K H xs (bs.map enc)
  | [], [], .nil => ⟨[], .nil, .nil⟩
  | u :: us, b :: bs, .cons ⟨x, r, d⟩ t => by
    obtain ⟨xs, h1, h2⟩ := each_back t
    exact ⟨x :: xs, .cons r h1, .cons d h2⟩
def rSortedD (K : PySem.W.Frag) (enc : β → PyData) : List V → Hp → VK → Prop := fun vs H Q => ∃ (a : Addr) (xs : List V) (bs : List β), vs = [V.ref a] ∧ SqL K H a xs ∧ DpAll K H xs (bs.map enc) ∧ PySem.W.Sortable (bs.map enc) ∧
  ∀ (ys : List V) (p : Addr), DpAll K H ys ((bs.mergeSort (PySem.W.dataLe false enc)).map enc) → H p = none → Q (.ref p) (upd H p (.lst ys))
theorem cr_sortedD (hal : ∀ b b', PySem.W.alike (enc b) (enc b') = true) (hd : ∀ b, (enc b).depth ≤ 60) (hu : X.A.units + 62 < cLine) : CallR X (.builtin "sorted") (rSortedD X.K enc) := by
  intro pins s σ H vs us Q I r h
  obtain ⟨a, xs, bs, rfl, hs, hds, hk, q⟩ := h
  obtain ⟨its, rv, hl, hz⟩ := I.list hs
  rw [Vals.ref1 r]
  have e1 := each_of (R := fun u b => ∃ x, RelV x u ∧ Dp X.K H x (enc b)) rv hds fun x u b r1 d1 => ⟨x, r1, d1⟩
  have e2 := each_of (R := fun u b => ∃ as, Reads s.heap u (enc b) as) rv hds fun x u b r1 d1 => Dp.reads I _ _ _ d1 r1
  have hbl : bs.length = its.length := by
    have := dpAll_len hds
    rw [List.length_map] at this
    rw [← this]
    exact rv.length
  refine PySem.W.sorted_data hl.isList e1 e2 (PySem.W.AllAlike.of hal) hk (by rw [hbl, ← rv.length]; exact hz) (fun b _ => by have := hd b; omega) fun out hlen ho => ?_
  obtain ⟨ys, v1, v2⟩ := each_back ho
  obtain ⟨ep, he⟩ := PyProof.Rows.sortedAll_at s.heap its out.toArray
  have hlen2 : ys.length ≤ sizeLine := by
    rw [v1.length, hlen, hbl, ← rv.length]
    exact hz
  exact ⟨.ref _, upd H (s.heap.objs.size + 1) (.lst ys), I.laid (t' := s.toks) (fun _ _ => PyProof.Rows.sortedAll_old) (Nat.le_succ _) ⟨hlen2, out, ep, v1, he⟩, rfl, q _ _ v2 (I.hok.fresh (Nat.le_succ _))⟩
end

/-! ### min of ways -/
section
variable {X : Cx}
def rMinW (K : PySem.W.Frag) : List V → Hp → VK → Prop := fun vs H Q => ∃ (a : Addr) (xs : List V) (r : Way) (rs : List Way), vs = [V.ref a] ∧ SqL K H a xs ∧ DpAll K H xs ((r :: rs).map encW) ∧
  ∀ v, Dp K H v (encW (minR r rs)) → Q v H
theorem cr_minW (hc : X.calm = true) (hu : X.A.units + 62 < cLine) : CallR X (.builtin "min") (rMinW X.K) := by
  intro pins s σ H vs us Q I r h
  obtain ⟨a, xs, w0, rs, rfl, hs, hds, q⟩ := h
  obtain ⟨its, rv, hl, hz⟩ := I.list hs
  rw [Vals.ref1 r]
  obtain ⟨as, hr⟩ := Dp.readsAll I _ _ _ hds rv
  have dep : PyData.depthAll ((w0 :: rs).map encW) ≤ 2 := by
    clear hds hr q
    generalize w0 :: rs = l
    induction l with
    | nil => simp [PyData.depthAll]
    | cons b l ih =>
      have := depth_W b
      simp only [List.map_cons, PyData.depthAll]
      omega
  refine PySem.W.min_list_data (x := encW w0) (xs := rs.map encW) (I.ok.hd hc) hl.isList (by simpa using hr) ⟨fun x hx y hy => ?_, fun x hx => ?_⟩ (by rw [List.map_cons] at dep; omega) fun i v h' tk bs hv hread hkeep => ?_
  · rw [← List.map_cons] at hx hy
    obtain ⟨b, _, rfl⟩ := List.mem_map.mp hx
    obtain ⟨b', _, rfl⟩ := List.mem_map.mp hy
    exact alike_W b b'
  · rw [← List.map_cons] at hx
    obtain ⟨b, _, rfl⟩ := List.mem_map.mp hx
    exact fun z => nomatch z
  · have hv' : its[i]? = some v := by simpa using hv
    have hi : i < xs.length := by
      rw [rv.length]
      exact (List.getElem?_eq_some_iff.mp hv').1
    obtain ⟨u, hu1, ru⟩ := rv.get (List.getElem?_eq_getElem hi)
    rw [hv'] at hu1
    cases hu1
    obtain ⟨d, hd1, hd2⟩ := dpAll_get' hds (List.getElem?_eq_getElem hi)
    rw [List.getElem?_map] at hd1
    obtain ⟨b, hb, rfl⟩ := Option.map_eq_some_iff.mp hd1
    obtain ⟨as2, r2⟩ := Dp.reads I _ _ _ hd2 ru
    rw [minD_W] at hread
    have e := PySem.W.alike_unique _ _ _ _ _ (alike_W b (minR w0 rs)) (PyProof.Rows.Reads.keeps hkeep r2) hread
    rw [e] at hd2
    exact ⟨xs[i], H, I.kept (t' := tk) hkeep, ru, q _ hd2⟩
end

/-! ### == and != of plain data -/
section
variable {X : Cx}
def rEqP (K : PySem.W.Frag) : R2 := fun x y H Q => ∃ d e, Dp K H x d ∧ Dp K H y e ∧ d.plain = true ∧ e.plain = true ∧ d.depth ≤ 60 ∧ Q (.bl (PyData.eqv d e)) H
def rNeP (K : PySem.W.Frag) : R2 := fun x y H Q => ∃ d e, Dp K H x d ∧ Dp K H y e ∧ d.plain = true ∧ e.plain = true ∧ d.depth ≤ 60 ∧ Q (.bl (!PyData.eqv d e)) H
theorem op_eqP (hu : X.A.units + 62 < cLine) : OpR X (compareOp .Eq) (rEqP X.K) := by
  intro pins s σ H x y v u Q I rx ry h
  obtain ⟨d, e, hd, he, sd, se, dl, q⟩ := h
  obtain ⟨as, r1⟩ := Dp.reads I d x v hd rx
  obtain ⟨bs, r2⟩ := Dp.reads I e y u he ry
  exact SeqAt.eq_plain r1 r2 sd se (by omega) ⟨.bl _, H, I, rfl, q⟩
theorem op_neP (hu : X.A.units + 62 < cLine) : OpR X (compareOp .NotEq) (rNeP X.K) := by
  intro pins s σ H x y v u Q I rx ry h
  obtain ⟨d, e, hd, he, sd, se, dl, q⟩ := h
  obtain ⟨as, r1⟩ := Dp.reads I d x v hd rx
  obtain ⟨bs, r2⟩ := Dp.reads I e y u he ry
  exact SeqAt.ne_plain r1 r2 sd se (by omega) ⟨.bl _, H, I, rfl, q⟩
end

/-! ### repr of a row of numbers, where the guards are known -/
theorem showable_ints : ∀ {ns : List Int}, (∀ n ∈ ns, n.natAbs.log2 < 1920) → PyData.showableAll (ns.map PyData.int) = true
  | [], _ => by simp [PyData.showableAll]
  | n :: ns, h => by
    simp only [List.map_cons, PyData.showableAll, PyData.showable, showable_ints fun m hm => h m (List.mem_cons_of_mem _ hm), Bool.and_true, decide_eq_true_eq]
    exact h n List.mem_cons_self
theorem noDict_ints : ∀ ns : List Int, PyData.hasDictAll (ns.map PyData.int) = false
  | [] => by simp [PyData.hasDictAll]
  | n :: ns => by simp [PyData.hasDictAll, PyData.hasDict, noDict_ints ns]
section
variable {X : Cx}
def rReprL (K : PySem.W.Frag) : List V → Hp → VK → Prop := fun vs H Q => ∃ (l : List Int) (v : V), vs = [v] ∧ Dp K H v (encL l) ∧ (∀ n ∈ l, n.natAbs.log2 < 1920) ∧ (encL l).shown.length ≤ sizeLine ∧ Q (.str (encL l).shown) H
theorem call_reprL (hg : X.A.guards = some []) (hu : X.A.units + 62 < cLine) : CallR X (.builtin "repr") (rReprL X.K) := by
  intro pins s σ H vs us Q I r h
  obtain ⟨l, v, rfl, hd, hb, hz, q⟩ := h
  obtain ⟨u, rfl, ru⟩ := vals1 r
  obtain ⟨as, hr⟩ := Dp.reads I _ _ _ hd ru
  have href : ∃ a, u = Value.ref a := by
    unfold encL at hr
    cases hr with
    | tuple => exact ⟨_, rfl⟩
  obtain ⟨a, rfl⟩ := href
  have dep := depth_L l
  refine repr_of_reads' (hsz := hz) hr (by unfold encL; rw [PyData.showable]; exact showable_ints hb) (PyData.noDict_hsm (by unfold encL; rw [PyData.hasDict]; exact noDict_ints l)) hg (by omega) (fun _ _ e => e) fun h' u tk hk => ?_
  exact ⟨.str _, H, I.kept (t' := tk) hk, ⟨u, rfl⟩, q⟩
end
end K32
end

section
set_option Elab.async false
set_option linter.all false
set_option maxRecDepth 100000
set_option maxHeartbeats 4000000
/-! K32V: a dict whose keys are ways. -/
namespace K32
open PySem PySem.Spec PyProof.Rows L2

def nkP (p : Int × Int) : NestedKey := .tup [.num p.1, .num p.2]
def nk (r : Way) : NestedKey := .tup (r.map nkP)
theorem nkP_inj {p q : Int × Int} (h : nkP p = nkP q) : p = q := by
  unfold nkP at h
  injection h with h
  injection h with h1 h2
  injection h2 with h2 h3
  injection h1 with h1
  injection h2 with h2
  exact Prod.ext h1 h2
theorem nkPs_inj : ∀ {a b : Way}, a.map nkP = b.map nkP → a = b
  | [], [], _ => rfl
  | [], _ :: _, h => by cases h
  | _ :: _, [], h => by cases h
  | x :: a, y :: b, h => by
    injection h with h1 h2
    rw [nkP_inj h1, nkPs_inj h2]
theorem nk_inj {a b : Way} (h : nk a = nk b) : a = b := by
  unfold nk at h
  injection h with h
  exact nkPs_inj h
theorem nk_depth (r : Way) : (nk r).depth ≤ 8 := by
  have : ∀ a : Way, NestedKey.depthAll (a.map nkP) ≤ 1 := fun a => by
    induction a with
    | nil => simp [NestedKey.depthAll]
    | cons x a ih =>
      simp [NestedKey.depthAll, nkP, NestedKey.depth] at ih ⊢
      omega
  have := this r
  unfold nk
  simp only [NestedKey.depth]
  omega
theorem ints_num {h : Heap} : ∀ {us : List Value} {ns : List Int} {as : List Addr}, ReadsAll h us (ns.map PyData.int) as → NestedAll h (ns.map NestedKey.num) us
  | [], [], _, .nil => .nil
  | _, n :: ns, _, .cons a b => by
    cases a
    exact .cons (.int _ _) (ints_num b)
theorem readP {h : Heap} {u : Value} {p : Int × Int} {as : List Addr} (r : Reads h u (encP p) as) : NestedIs h (nkP p) u := by
  unfold encP at r
  cases r with
  | tuple h1 h2 h3 h4 => exact .tup h1 h2 h3 (ints_num (ns := [p.1, p.2]) h4)
theorem readPs {h : Heap} : ∀ {us : List Value} {r : Way} {as : List Addr}, ReadsAll h us (r.map encP) as → NestedAll h (r.map nkP) us
  | [], [], _, .nil => .nil
  | _, p :: r, _, .cons a b => .cons (readP a) (readPs b)
theorem readW {h : Heap} {a : Addr} {r : Way} {as : List Addr} (q : Reads h (.ref a) (encW r) as) : NestedIs h (nk r) (.ref a) := by
  unfold encW at q
  cases q with
  | tuple h1 h2 h3 h4 => exact .tup h1 h2 h3 (readPs h4)

/-- what stands in the dict: the ways, each at its address, all with True -/
def ents (L : List (Way × Addr)) : List (NestedKey × Addr × Value) := L.map fun x => (nk x.1, x.2, Value.bool true)
def RingP (P : Program) (w : World) (d : Addr) (L : List (Way × Addr)) (h : Heap) : Prop :=
  (d == sysModules) = false ∧ ∃ o es ep, h.get? d = some o ∧ o.ExactDict ∧ o.data = .dict es ep ∧ es.toList = (ents L).map (entryOfKey (nestedKind P w)) ∧ ((ents L).map (·.1)).Nodup
def RingO (P : Program) (w : World) (d : Addr) (L : List (Way × Addr)) : HO := .ext (RingP P w d L)
theorem ringO_ok {P : Program} {w : World} {d : Addr} {L : List (Way × Addr)} {H : Hp} {h : Heap} (r : RingP P w d L h) : ObjOk P w H h d (RingO P w d L) := by
  refine ⟨r, ?_, fun h1 h2 r1 k => ?_⟩
  · obtain ⟨_, o, _, _, e, _⟩ := r
    exact ⟨o, e⟩
  · obtain ⟨z, o, es, ep, e, q⟩ := r1
    exact ⟨z, o, es, ep, k o e, q⟩
/-- the keys' own tuples stand -/
def KeysAt (K : PySem.W.Frag) (H : Hp) (L : List (Way × Addr)) : Prop := ∀ x ∈ L, Dp K H (.ref x.2) (encW x.1)
section
variable {X : Cx} {pins : List (Addr × Obj)} {σ : L2.St} {H : Hp} {s : Shared} {d : Addr} {L : List (Way × Addr)}
theorem ring_dict (I : Inv X pins σ H s) (e : H d = some (RingO X.prog X.w d L)) (ks : KeysAt X.K H L) : (d == sysModules) = false ∧ s.heap.DictOfH (nestedKind X.prog X.w) d (ents L) := by
  obtain ⟨r, _, _⟩ := (show ObjOk X.prog X.w H s.heap d (RingO X.prog X.w d L) from I.hok d _ e)
  obtain ⟨z, o, es, ep, h1, h2, h3, h4, h5⟩ := r
  refine ⟨z, o, es, ep, h1, h2, h3, h4, fun x hx => ?_, h5⟩
  obtain ⟨y, hy, rfl⟩ := List.mem_map.mp hx
  obtain ⟨as, q⟩ := Dp.reads I _ _ _ (ks y hy) (show RelV (.ref y.2) (Value.ref y.2) from rfl)
  exact ⟨readW q, nk_depth _⟩
def tDNewR (P : Program) (w : World) : TE := fun _ H Q => ∀ p, H p = none → Q (.ref p) (upd H p (RingO P w p []))
theorem pe_dnewR {pos : Pos} : PE X (.Dict [] [] pos) (tDNewR X.prog X.w) := ⟨fun pins s σ H Q I h =>
  wpAny_Dict_empty ⟨.ref s.heap.objs.size, _, I.laid (a := s.heap.objs.size) (o := RingO X.prog X.w s.heap.objs.size []) (t' := s.toks) (fun _ _ q => Heap.get?_push_of_some _ q) (Nat.le_refl _)
    (ringO_ok (by
      obtain ⟨o, es, ep, a1, a2, a3, a4, _, a6⟩ := Heap.DictOfH.new (knd := nestedKind X.prog X.w) s.heap
      refine ⟨?_, o, es, ep, a1, a2, a3, a4, a6⟩
      have hb := I.big
      simp only [beq_eq_false_iff_ne]
      exact Nat.ne_of_gt hb)), rfl, h _ (I.hok.fresh (Nat.le_refl _))⟩⟩
/-- the ways behind a store of one -/
def putR (L : List (Way × Addr)) (r : Way) (a : Addr) : List (Way × Addr) := if r ∈ L.map (·.1) then L else L ++ [(r, a)]
theorem at_ents (r : Way) : ∀ L : List (Way × Addr), (atKey (ents L) (nk r)).isSome = decide (r ∈ L.map (·.1))
  | [] => by simp [ents, atKey]
  | x :: L => by
    have ih := at_ents r L
    unfold ents atKey at ih ⊢
    by_cases h : x.1 = r
    · subst h
      simp
    · have h2 : ¬ nk x.1 = nk r := fun z => h (nk_inj z)
      have h3 : ¬ r = x.1 := fun z => h z.symm
      simp only [List.map_cons, List.find?_cons, h2, decide_false, List.mem_cons, h3, false_or]
      exact ih
theorem stored_ents (L : List (Way × Addr)) (r : Way) (a : Addr) : storedH (ents L) (nk r) a (.bool true) = ents (putR L r a) := by
  unfold storedH putR
  rw [at_ents]
  by_cases h : r ∈ L.map (·.1)
  · rw [if_pos (decide_eq_true h), if_pos h]
    unfold ents
    rw [List.map_map]
    refine List.map_congr_left fun x _ => ?_
    unfold Function.comp putAt
    split <;> rfl
  · rw [if_neg (by simp [h]), if_neg h]
    unfold ents
    rw [List.map_append]
    rfl
/-- d[way] = True -/
def sDPutR (K : PySem.W.Frag) (P : Program) (w : World) (td ty tv : TE) : TS := fun D σ H => tv σ H fun v H1 => td σ H1 fun x H2 => ty σ H2 fun y H3 =>
  ∃ d b L r, x = .ref d ∧ y = .ref b ∧ v = .bl true ∧ H3 d = some (RingO P w d L) ∧ KeysAt K H3 L ∧ Dp K H3 (.ref b) (encW r) ∧ L.length ≤ 1000 ∧ D.nx σ (upd H3 d (RingO P w d (putR L r b)))
theorem ps_dputR {o i value : Expr} {pos pos' : Pos} {td ty tv : TE} (hu : X.A.units + 62 < cLine) (ho : PE X o td) (hi : PE X i ty) (hv : PE X value tv) (hs : swapsWith value (some (.Subscript o i pos')) pos.line X.env = pure false := by rfl) :
    PS X (.Assign [.Subscript o i pos'] value pos) (sDPutR X.K X.prog X.w td ty tv) := by
  refine ⟨fun pins s σ H D I h => ?_⟩
  refine wpAny_Assign_Subscript (thn (hv.run pins s σ H _ I h) fun r s1 ⟨v, H1, I1, rv, q1⟩ => thn (ho.run pins s1 σ H1 _ I1 q1) fun u s2 ⟨x, H2, I2, rx, q2⟩ => thn (hi.run pins s2 σ H2 _ I2 q2) fun iv s3 ⟨y, H3, I3, ry, q3⟩ => ?_) hs
  obtain ⟨d, b, L, way, rfl, rfl, rfl, e, ks, hd, hl, q⟩ := q3
  cases rx
  cases ry
  cases rv
  obtain ⟨z, dd⟩ := ring_dict I3 e ks
  obtain ⟨as, qr⟩ := Dp.reads I3 _ _ _ hd (show RelV (.ref b) (Value.ref b) from rfl)
  refine wpAny_setItem_heap (knd := nestedKind X.prog X.w) (hsz := by unfold ents; rw [List.length_map]; exact Nat.le_trans hl (by decide)) (show X.A.in1.units + 8 < cLine from by show X.A.units + 1 + 8 < cLine; omega) (k := nk way) ⟨readW qr, nk_depth _⟩ dd fun h' dd' sb => ?_
  rw [stored_ents] at dd'
  obtain ⟨o, es, ep, a1, a2, a3, a4, _, a6⟩ := dd'
  have I4 : Inv X pins σ (upd H3 d (RingO X.prog X.w d (putR L way b))) { s3 with heap := h', toks := s3.toks + (nestedKind X.prog X.w).draws (nk way) } :=
    I3.write (e := d) (by rw [e]; trivial) (.inl rfl) (fun c u hc hq => (sb.2 c hc).trans hq) ⟨o, a1⟩ (ringO_ok ⟨z, o, es, ep, a1, a2, a3, a4, a6⟩)
  exact ⟨σ, _, I4, q⟩
/-- len(d) -/
theorem call_lenR : CallR X (.builtin "len") (fun vs H Q => ∃ d L, vs = [.ref d] ∧ H d = some (RingO X.prog X.w d L) ∧ KeysAt X.K H L ∧ L.length ≤ 1000 ∧ Q (.int L.length) H) := by
  intro pins s σ H vs us Q I r h
  obtain ⟨d, L, rfl, e, ks, hl, q⟩ := h
  rw [Vals.ref1 r]
  obtain ⟨z, dd⟩ := ring_dict I e ks
  have dk : s.heap.DictKeyed (nestedKind X.prog X.w) d (pairsH (ents L)) := ⟨_, dd, rfl⟩
  have el : (pairsH (ents L)).length = L.length := by simp [pairsH, ents]
  refine PyProof.Rows.call_len_slot (n := ((pairsH (ents L)).length : Nat)) dk.typeIs PySem.F.slot_dict_len (fun Q' hq => len_keyed z dk hq) (by omega) (by rw [el]; omega) ?_
  rw [el]
  exact ⟨.int L.length, H, I.tok _, ⟨_, rfl⟩, q⟩
theorem vals_refs : ∀ L : List (Way × Addr), Vals (L.map fun x => V.ref x.2) (L.map fun x => Value.ref x.2)
  | [] => .nil
  | x :: L => .cons rfl (vals_refs L)
/-- list(d) -/
theorem call_listR (hc : X.calm = true) : CallR X (.type "list") (fun vs H Q => ∃ d L, vs = [.ref d] ∧ H d = some (RingO X.prog X.w d L) ∧ KeysAt X.K H L ∧ L.length ≤ 1000 ∧
    ∀ p, H p = none → Q (.ref p) (upd H p (.lst (L.map fun x => V.ref x.2)))) := by
  intro pins s σ H vs us Q I r h
  obtain ⟨d, L, rfl, e, ks, hl, q⟩ := h
  rw [Vals.ref1 r]
  obtain ⟨z, o, es, ep, h1, h2, h3, h4, _, h6⟩ := ring_dict I e ks
  have l1 : es.size = (ents L).length := size_of_entries h4
  have l2 : (ents L).length = L.length := by simp [ents]
  refine PySem.W.kdl_call (kdl_raw z h2 h3) (I.ok.hd hc) h1 (by rw [l1, l2]; exact Nat.le_trans hl (by decide)) fun h' tk acc' c' kp e2 it => ?_
  have ea : acc'.toList = L.map fun x => Value.ref x.2 := by
    have hlen : acc'.toList.length = L.length := by rw [Array.length_toList, it.1, l1, l2]
    refine List.ext_getElem? fun j => ?_
    by_cases hj : j < L.length
    · have hj2 : j < acc'.toList.length := by omega
      obtain ⟨en, hen, hv⟩ := it.2 j acc'.toList[j] (by rw [← Array.getElem?_toList]; exact List.getElem?_eq_getElem hj2)
      rw [List.getElem?_eq_getElem hj2, List.getElem?_map, List.getElem?_eq_getElem hj]
      have qe := entry_at h4 j
      rw [hen] at qe
      unfold ents at qe
      rw [List.getElem?_map, List.getElem?_eq_getElem hj] at qe
      have e5 : en = _ := Option.some.inj qe
      rw [hv, e5]
      rfl
    · rw [List.getElem?_eq_none (by omega), List.getElem?_eq_none (by rw [List.length_map]; omega)]
  have hvals : Vals (L.map fun x => V.ref x.2) acc'.toList := by
    rw [ea]
    exact vals_refs L
  have I2 : Inv X pins σ (upd H s.heap.objs.size (.lst (L.map fun x => V.ref x.2))) { s with heap := h', toks := tk } :=
    I.laid kp (Nat.le_refl _) (show ObjOk X.prog X.w _ _ _ (.lst (L.map fun x => V.ref x.2)) from ⟨by rw [List.length_map]; exact Nat.le_trans hl (by decide), acc'.toList, c', hvals, by simpa using e2⟩)
  exact ⟨.ref s.heap.objs.size, _, I2, rfl, q _ (I.hok.fresh (Nat.le_refl _))⟩
end
end K32
end

section
set_option Elab.async false
set_option linter.all false
set_option maxRecDepth 100000
set_option maxHeartbeats 4000000
/-! K32W: the text by places, how things stand in the heap, numbers. -/
namespace K32
open PySem PySem.Spec PyProof.Rows L2
def topS (i : Nat) : Stmt := PySem.Challenge.pw_rootstalls_k32_whole_fewest_stalls_struc.main.body.getD i (.Pass ⟨0, 0, 0, 0⟩)
theorem u62 {k : Nat} {A : Around} (hr : Room k A) : A.units + 62 < cLine := by have := hr.units; omega

/-- what the top has left -/
structure Txt (K : PySem.W.Frag) (mg : Str → Option Value) (C Cw : Addr) where
  tw : Tok
  ts : Tok
  tr : Tok
  clE : Cls K C
  clW : Cls K Cw
  nTop : NoAttr K C "top"
  nBot : NoAttr K C "bottom"
  nWar : NoAttr K Cw "wares"
  nSta : NoAttr K Cw "stalls"
  sfE : PySem.W.selfFirst K C = true
  neE : PySem.W.findIn K (.ref C) "__ne__" = some (some (.builtin "object.__ne__"))
  obE : PySem.W.subIn K (.ref C) (.type "object") = some true
  inE : C8.InsC K C
  m_Exact : mg "Exact" = some (.ref C)
  m_MOST_WARES : mg "MOST_WARES" = some (.int 8 tw)
  m_MOST_STALLS : mg "MOST_STALLS" = some (.int 16 ts)
  m_MOST_RINGS : mg "MOST_RINGS" = some (.int 200 tr)
  z_abs : mg "abs" = none
  z_isinstance : mg "isinstance" = none
  z_int : mg "int" = none
  z_bool : mg "bool" = none
  z_tuple : mg "tuple" = none
  z_list : mg "list" = none
  z_len : mg "len" = none
  z_all : mg "all" = none
  z_any : mg "any" = none
  z_range : mg "range" = none
  z_enumerate : mg "enumerate" = none
  z_sorted : mg "sorted" = none
  z_min : mg "min" = none
  z_zip : mg "zip" = none
  z_repr : mg "repr" = none
section
variable {K : PySem.W.Frag} {mg : Str → Option Value} {C Cw : Addr}
theorem Txt.r_Exact (T : Txt K mg C Cw) : RelV (.ref C) (.ref C) := rfl
theorem Txt.r_MOST_WARES (T : Txt K mg C Cw) : RelV (.int 8) (.int 8 T.tw) := ⟨_, rfl⟩
theorem Txt.r_MOST_STALLS (T : Txt K mg C Cw) : RelV (.int 16) (.int 16 T.ts) := ⟨_, rfl⟩
theorem Txt.r_MOST_RINGS (T : Txt K mg C Cw) : RelV (.int 200) (.int 200 T.tr) := ⟨_, rfl⟩
end

/-! ### exact numbers -/
def exF (q : Rat) : List (Str × V) := putF "bottom" (.int q.den) (putF "top" (.int q.num) [])
theorem tb_ : ¬ (("top" : Str) = "bottom") := by decide +kernel
theorem exF_top (q : Rat) : (exF q).lookup ("top" : Str) = some (.int q.num) := by
  unfold exF
  rw [lookup_putF, if_neg tb_, lookup_putF, if_pos rfl]
theorem exF_bot (q : Rat) : (exF q).lookup ("bottom" : Str) = some (.int q.den) := by
  unfold exF
  rw [lookup_putF, if_pos rfl]
theorem exF_no (q : Rat) {m : Str} (h1 : ¬ m = "top") (h2 : ¬ m = "bottom") : (exF q).lookup m = none := by
  unfold exF
  rw [lookup_putF, if_neg h2, lookup_putF, if_neg h1]
  all_goals rfl
def ExA (C : Addr) (H : Hp) (v : V) (q : Rat) : Prop := ∃ a dx, v = .ref a ∧ H a = some (.ins C dx (exF q))
def FrA (K : PySem.W.Frag) (H : Hp) (v : V) (q : Rat) : Prop := ∃ a, v = .ref a ∧ SqT K H a [.int q.num, .int q.den]
theorem ExA.same {C : Addr} {H H' : Hp} {v : V} {q : Rat} (h : ExA C H v q) (e : Same H H') : ExA C H' v q := by
  obtain ⟨a, dx, rfl, h⟩ := h
  exact ⟨a, dx, rfl, e _ _ h⟩
theorem FrA.same {K : PySem.W.Frag} {H H' : Hp} {v : V} {q : Rat} (h : FrA K H v q) (e : Same H H') : FrA K H' v q := by
  obtain ⟨a, rfl, h⟩ := h
  exact ⟨a, rfl, h.ext e⟩
/-- how long the numbers are -/
def Bd (n : Nat) (q : Rat) : Prop := q.num.natAbs < 2 ^ n ∧ q.den < 2 ^ n
theorem Bd.mono {n m : Nat} {q : Rat} (h : Bd n q) (l : n ≤ m) : Bd m q :=
  ⟨Nat.lt_of_lt_of_le h.1 (Nat.pow_le_pow_right (by decide) l), Nat.lt_of_lt_of_le h.2 (Nat.pow_le_pow_right (by decide) l)⟩
theorem bd_divInt {a b : Int} {n : Nat} (hb : b ≠ 0) (h1 : a.natAbs < 2 ^ n) (h2 : b.natAbs < 2 ^ n) : Bd n (Rat.divInt a b) := by
  have g : 0 < b.gcd a := Int.gcd_pos_of_ne_zero_left _ hb
  constructor
  · rw [Rat.num_divInt]
    refine Nat.lt_of_le_of_lt ?_ h1
    have e : (b.sign * a).natAbs = a.natAbs := by
      rw [Int.natAbs_mul, Int.natAbs_sign_of_ne_zero hb, Nat.one_mul]
    rw [Int.natAbs_ediv_of_dvd, e]
    · exact Nat.div_le_self _ _
    · exact Int.dvd_mul_of_dvd_right (Int.gcd_dvd_right b a)
  · rw [Rat.den_divInt, if_neg hb]
    exact Nat.lt_of_le_of_lt (Nat.div_le_self _ _) h2
theorem Rat.divInt_self' (q : Rat) : Rat.divInt q.num q.den = q := Rat.num_divInt_den q
theorem mul_divInt (p q : Rat) : Rat.divInt (p.num * q.num) ((p.den : Int) * q.den) = p * q := by
  rw [← Rat.divInt_mul_divInt, Rat.num_divInt_den, Rat.num_divInt_den]
theorem over_divInt (p q : Rat) : Rat.divInt (p.num * q.den) ((p.den : Int) * q.num) = p / q := by
  rw [← Rat.divInt_mul_divInt, Rat.num_divInt_den, Rat.div_def]
  congr 1
  rw [← Rat.inv_divInt, Rat.num_divInt_den]
theorem add_divInt (p q : Rat) : Rat.divInt (p.num * q.den + q.num * p.den) ((p.den : Int) * q.den) = p + q := by
  have h1 : (p.den : Int) ≠ 0 := by have := p.den_pos; omega
  have h2 : (q.den : Int) ≠ 0 := by have := q.den_pos; omega
  have e := Rat.divInt_add_divInt p.num q.num h1 h2
  rw [Rat.num_divInt_den, Rat.num_divInt_den] at e
  exact e.symm
theorem nat_mul_lt {a b n m : Nat} (h1 : a < 2 ^ n) (h2 : b < 2 ^ m) : a * b < 2 ^ (n + m) := by
  rw [Nat.pow_add]
  exact Nat.mul_lt_mul'' h1 h2
theorem den_ne (p q : Rat) : (p.den : Int) * q.den ≠ 0 := by
  have h1 : (p.den : Int) ≠ 0 := by have := p.den_pos; omega
  have h2 : (q.den : Int) ≠ 0 := by have := q.den_pos; omega
  exact Int.mul_ne_zero h1 h2
theorem Bd.mul {n m : Nat} {p q : Rat} (h : Bd n p) (k : Bd m q) : Bd (n + m) (p * q) := by
  rw [← mul_divInt]
  refine bd_divInt (den_ne p q) ?_ ?_
  · rw [Int.natAbs_mul]
    exact nat_mul_lt h.1 k.1
  · rw [Int.natAbs_mul]
    exact nat_mul_lt h.2 k.2
theorem Bd.over {n m : Nat} {p q : Rat} (h : Bd n p) (k : Bd m q) (hq : q.num ≠ 0) : Bd (n + m) (p / q) := by
  rw [← over_divInt]
  have h1 : (p.den : Int) ≠ 0 := by have := p.den_pos; omega
  refine bd_divInt (Int.mul_ne_zero h1 hq) ?_ ?_
  · rw [Int.natAbs_mul]
    exact nat_mul_lt h.1 k.2
  · rw [Int.natAbs_mul]
    exact nat_mul_lt h.2 k.1
theorem Bd.add {n m : Nat} {p q : Rat} (h : Bd n p) (k : Bd m q) : Bd (n + m + 1) (p + q) := by
  rw [← add_divInt]
  refine bd_divInt (den_ne p q) ?_ ?_
  · have a := nat_mul_lt h.1 k.2
    have b := nat_mul_lt k.1 h.2
    rw [Nat.add_comm m n] at b
    have e : (2 : Nat) ^ (n + m + 1) = 2 ^ (n + m) + 2 ^ (n + m) := by rw [Nat.pow_succ]; omega
    rw [e]
    refine Nat.lt_of_le_of_lt (Int.natAbs_add_le _ _) ?_
    rw [Int.natAbs_mul, Int.natAbs_mul]
    exact Nat.add_lt_add a b
  · rw [Int.natAbs_mul]
    have c := nat_mul_lt h.2 k.2
    exact Nat.lt_of_lt_of_le c (Nat.pow_le_pow_right (by decide) (Nat.le_succ _))
theorem bd_one : Bd 1 1 := ⟨by decide, by decide⟩
theorem bd_zero : Bd 1 0 := ⟨by decide, by decide⟩
theorem num_pos {q : Rat} (h : 0 < q) : 0 < q.num := by
  have h1 := Rat.num_nonneg.mpr (Rat.le_of_lt h)
  have h2 : q.num ≠ 0 := fun e => by
    rw [Rat.num_eq_zero.mp e] at h
    exact absurd h (by decide)
  omega
end K32
end

section
set_option Elab.async false
set_option linter.all false
set_option maxRecDepth 100000
set_option maxHeartbeats 4000000
/-! K32N: exact numbers, def by def. -/
namespace K32
open PySem PySem.Spec PyProof.Rows L2
section
variable {P : Program} {w : World} {K : PySem.W.Frag} {mg : Str → Option Value} {base : Heap} {C Cw : Addr}

/-! ### is_integer, common -/
abbrev st_is_integer : Stmt := topS 7
theorem sc_is_integer : FnScope ["thing"] ["thing"] (defScope st_is_integer) := ⟨rfl, rfl, rfl, by decide +kernel, rfl, by decide +kernel, by decide +kernel⟩
def spInt : Sp := fun vs H Q _ => ∃ i : Int, vs = [.int i] ∧ Q (.bl true) H
theorem ok_is_integer (D : Def K mg "is_integer" st_is_integer ["thing"]) (T : Txt K mg C Cw) : Cal P w K mg base "is_integer" 1 ["thing"] spInt := by
  refine D.ok sc_is_integer (fun vs H Q E h => ?_) (fun f cdv A outer s H vs Q E hr h => ?_)
  · obtain ⟨i, rfl, _⟩ := h
    rfl
  · obtain ⟨i, rfl, q⟩ := h
    refine ⟨_, (pss_one (ps_ret (pe_and (pe_callB call_isi (by rfl) T.z_isinstance (by decide +kernel) (pa_cons (pv 0) (pa_cons (pe_bltn (v := .ty "int") (by rfl) T.z_int (by decide +kernel) rfl) pa_nil))) (pe_one (pe_not (pe_callB call_isi (by rfl) T.z_isinstance (by decide +kernel) (pa_cons (pv 0) (pa_cons (pe_bltn (v := .ty "bool") (by rfl) T.z_bool (by decide +kernel) rfl) pa_nil)))))))), ?_⟩
    refine ⟨_, rfl, _, _, _, _, _, rfl, .ty "int", .base (.int i), kit_ty (b := "int") (r := true) (by decide +kernel), true, rfl, ?_⟩
    refine iteT ?_
    exact ⟨_, rfl, _, _, _, _, _, rfl, .ty "bool", .base (.int i), kit_ty (b := "bool") (r := false) (by decide +kernel), false, rfl, q⟩

abbrev st_common : Stmt := topS 8
theorem sc_common : FnScope ["one", "other"] ["one", "other"] (defScope st_common) := ⟨rfl, rfl, rfl, by decide +kernel, rfl, by decide +kernel, by decide +kernel⟩
def spCommon : Sp := fun vs H Q _ => ∃ a b : Int, vs = [.int a, .int b] ∧ Q (.int (Int.gcd a b)) H
theorem gcd_step (a b : Int) : Int.gcd b (a.fmod b) = Int.gcd a b := by
  rw [Int.fmod_def, Int.gcd_sub_mul_left_right, Int.gcd_comm]
theorem ok_common (D : Def K mg "common" st_common ["one", "other"]) (T : Txt K mg C Cw) : Cal P w K mg base "common" 1 ["one", "other"] spCommon := by
  refine D.ok sc_common (fun vs H Q E h => ?_) (fun f cdv A outer s H vs Q E hr h => ?_)
  · obtain ⟨a, b, rfl, _⟩ := h
    rfl
  · obtain ⟨a, b, rfl, q⟩ := h
    refine ⟨_, (pss_cons (ps_par (i := 0) (j := 1) (by rfl) sc_common.nd rfl rfl (by decide) rfl rfl (pa_cons (pe_callB call_abs (by rfl) T.z_abs (by decide +kernel) (pa_cons (pv 0) pa_nil)) (pa_cons (pe_callB call_abs (by rfl) T.z_abs (by decide +kernel) (pa_cons (pv 1) pa_nil)) pa_nil)) (by rfl))
        (pss_cons (ps_while PassesOwn.never (pt_cmpR op_gt (pv 1) pe_int (nomark _)) (pss_one (ps_par (i := 0) (j := 1) (by rfl) sc_common.nd rfl rfl (by decide) rfl rfl (pa_cons (pv 1) (pa_cons (pe_op op_modN (pv 0) (pv 1)) pa_nil)) (by rfl))))
        (pss_one (ps_ret (pv 0))))), ?_⟩
    refine ⟨_, rfl, _, rfl, _, rfl, _, rfl, _, _, rfl, ?_⟩
    refine while_by (fun σ H' => ∃ x y : Int, σ = [some (.int x), some (.int y)] ∧ 0 ≤ x ∧ 0 ≤ y ∧ Int.gcd x y = Int.gcd a b ∧ H' = H)
      (fun σ _ => match σ with | [_, some (.int y)] => y.toNat | _ => 0) ⟨_, _, rfl, by split <;> omega, by split <;> omega, ?_, rfl⟩ (fun σ H' h => ?_) fun σ H Q Q' hq h => ?_
    · rw [← Int.gcd_neg, ← Int.neg_gcd]
      split <;> split <;> simp
    · obtain ⟨x, y, rfl, hx, hy, e, rfl⟩ := h
      refine ⟨_, rfl, _, _, rfl, rfl, _, rfl, ite2 (fun c => ?_) (fun c => ?_)⟩
      · have c' : 0 < y := of_decide_eq_true c
        refine ⟨_, rfl, _, rfl, _, rfl, _, _, rfl, rfl, by omega, _, _, rfl, ⟨_, _, rfl, hy, ?_, ?_, rfl⟩, ?_⟩
        · exact Int.fmod_nonneg_of_pos _ c'
        · rw [gcd_step, e]
        · have h1 := Int.fmod_lt_of_pos x c'
          have h2 := Int.fmod_nonneg_of_pos x c'
          show (x.fmod y).toNat < y.toNat
          omega
      · have c' : ¬ 0 < y := fun z => c (decide_eq_true z)
        have e0 : y = 0 := by omega
        subst e0
        have e1 : x = (Int.gcd a b : Int) := by
          rw [← e, Int.gcd_zero_right]
          omega
        subst e1
        exact ⟨_, rfl, q⟩
    · obtain ⟨v, e1, i, j, e2, e3, k, e4, q'⟩ := h
      exact ⟨v, e1, i, j, e2, e3, k, e4, hq _ _ q'⟩

/-! ### Exact(top, bottom) -/
abbrev st_Exact_init : Stmt := inClass (topS 9) 0
theorem sc_Exact_init : FnScope ["self", "top", "bottom", "part"] ["self", "top", "bottom"] (defScope st_Exact_init) := ⟨rfl, rfl, rfl, by decide +kernel, rfl, by decide +kernel, by decide +kernel⟩
def spInitE (C : Addr) : Sp := fun vs H Q _ => ∃ (p dx : Addr) (t b : Int), vs = [.ref p, .int t, .int b] ∧ H p = some (.ins C dx []) ∧ b ≠ 0 ∧ b.natAbs < 2 ^ 9000 ∧ Q .non (upd H p (.ins C dx (exF (Rat.divInt t b))))
theorem div_top {t b : Int} (hb : b ≠ 0) : (if b < 0 then -t else t) / (Int.gcd (if b < 0 then -t else t) (if b < 0 then -b else b) : Int) = (Rat.divInt t b).num := by
  rw [Rat.num_divInt]
  by_cases c : b < 0
  · rw [if_pos c, if_pos c, Int.gcd_neg, Int.neg_gcd, Int.sign_eq_neg_one_of_neg c, Int.gcd_comm]
    congr 1
    omega
  · rw [if_neg c, if_neg c, Int.sign_eq_one_of_pos (by omega), Int.gcd_comm]
    congr 1
    omega
theorem div_bot {t b : Int} (hb : b ≠ 0) : (if b < 0 then -b else b) / (Int.gcd (if b < 0 then -t else t) (if b < 0 then -b else b) : Int) = ((Rat.divInt t b).den : Int) := by
  rw [Rat.den_divInt, if_neg hb]
  by_cases c : b < 0
  · rw [if_pos c, if_pos c, Int.gcd_neg, Int.neg_gcd, Int.gcd_comm, Int.natCast_ediv]
    congr 1
    omega
  · rw [if_neg c, if_neg c, Int.gcd_comm, Int.natCast_ediv]
    congr 1
    omega
theorem gcd_bd {t b : Int} (hb : b ≠ 0) (h : b.natAbs < 2 ^ 9000) : CDivW 0 (Int.gcd t b : Int) := by
  have g : 0 < Int.gcd t b := Int.gcd_pos_of_ne_zero_right _ hb
  refine wide_div (by omega) (b := 9000) ?_ (by decide) (Nat.le_refl _)
  rw [Int.natAbs_natCast]
  have hd : Int.gcd t b ∣ b.natAbs := Int.natAbs_dvd_natAbs.mpr (Int.gcd_dvd_right t b)
  exact Nat.lt_of_le_of_lt (Nat.le_of_dvd (by omega) hd) h
theorem ok_Exact (D : IDef K mg "Exact" C "Exact.__init__" st_Exact_init ["self", "top", "bottom"]) (T : Txt K mg C Cw) (c_common : Cal P w K mg base "common" 1 ["one", "other"] spCommon) :
    ICal P w K mg base "Exact" C 2 ["self", "top", "bottom"] (spInitE C) := by
  refine D.ok sc_Exact_init (fun vs H Q E h => ?_) (fun f cdv A outer s H vs Q E hr h => ?_)
  · obtain ⟨p, dx, t, b, rfl, _⟩ := h
    rfl
  · obtain ⟨p, dx, t, b, rfl, hp, hb, hn, q⟩ := h
    refine ⟨_, (pss_cons (ps_if (pt_cmpR op_lt (pv 2) pe_int (nomark _)) (pss_one (ps_par (i := 1) (j := 2) (by rfl) sc_Exact_init.nd rfl rfl (by decide) rfl rfl (pa_cons (pe_un un_neg (pv 1)) (pa_cons (pe_un un_neg (pv 2)) pa_nil)) (by rfl))) pss_nil)
        (pss_cons (ps_set (i := 3) sc_Exact_init.nd rfl (Or.inl rfl) (pe_cal c_common (hr.mono (by decide)) (by rfl) (pa_cons (pv 1) (pa_cons (pv 2) pa_nil))))
        (pss_cons (ps_fld (pv 0) (pe_op op_fdivW (pv 1) (pv 3)) rfl)
        (pss_one (ps_fld (pv 0) (pe_op op_fdivW (pv 2) (pv 3)) rfl))))), ?_⟩
    refine ⟨_, rfl, _, _, rfl, rfl, _, rfl, ite2 (fun c => ?_) (fun c => ?_)⟩
    · have c' : b < 0 := of_decide_eq_true c
      have g := gcd_bd (t := -t) (b := -b) (by omega) (by omega)
      refine ⟨_, rfl, _, rfl, _, rfl, _, rfl, _, _, rfl, ?_⟩
      refine ⟨_, rfl, _, rfl, _, _, rfl, ?_⟩
      refine ⟨_, rfl, _, rfl, _, _, rfl, rfl, g, _, rfl, p, C, dx, _, rfl, hp, T.clE, T.nTop, (by decide), ?_⟩
      refine ⟨_, rfl, _, rfl, _, _, rfl, rfl, g, _, rfl, p, C, dx, _, rfl, upd_same, T.clE, T.nBot, (by show 1 < 1000; decide), ?_⟩
      rw [upd_upd]
      have e1 := div_top (t := t) hb
      have e2 := div_bot (t := t) hb
      rw [if_pos c', if_pos c'] at e1 e2
      show Q .non (upd H p (.ins C dx (putF "bottom" (.int (-b / (Int.gcd (-t) (-b) : Int))) (putF "top" (.int (-t / (Int.gcd (-t) (-b) : Int))) []))))
      rw [e1, e2]
      exact q
    · have c' : ¬ b < 0 := fun z => c (decide_eq_true z)
      have g := gcd_bd (t := t) (b := b) hb hn
      refine ⟨_, rfl, _, rfl, _, _, rfl, ?_⟩
      refine ⟨_, rfl, _, rfl, _, _, rfl, rfl, g, _, rfl, p, C, dx, _, rfl, hp, T.clE, T.nTop, (by decide), ?_⟩
      refine ⟨_, rfl, _, rfl, _, _, rfl, rfl, g, _, rfl, p, C, dx, _, rfl, upd_same, T.clE, T.nBot, (by show 1 < 1000; decide), ?_⟩
      rw [upd_upd]
      have e1 := div_top (t := t) hb
      have e2 := div_bot (t := t) hb
      rw [if_neg c', if_neg c'] at e1 e2
      show Q .non (upd H p (.ins C dx (putF "bottom" (.int (b / (Int.gcd t b : Int))) (putF "top" (.int (t / (Int.gcd t b : Int))) []))))
      rw [e1, e2]
      exact q
/-- a new exact number -/
theorem mkE {H1 : Hp} {Q : VK} {t b : Int} (hb : b ≠ 0) (hn : b.natAbs < 2 ^ 9000) (k : ∀ v H2, Same H1 H2 → ExA C H2 v (Rat.divInt t b) → Q v H2) : ∀ x dx, H1 x = none → H1 dx = none → dx ≠ x →
    spInitE C (.ref x :: ([.int t, .int b] ++ [])) (upd (upd H1 dx (.own x)) x (.ins C dx [])) (fun v H2 => v = .non ∧ Q (.ref x) H2) E0 := fun x dx nx ndx ne =>
  ⟨x, dx, t, b, rfl, upd_same, hb, hn, rfl, by
    rw [upd_upd]
    exact k _ _ (fun c o e => by rw [upd_ne (ne_of_none e nx), upd_ne (ne_of_none e ndx)]; exact e) ⟨x, dx, rfl, upd_same⟩⟩
theorem lt9000 {n m : Nat} (h : n < 2 ^ m) (l : m ≤ 9000) : n < 2 ^ 9000 := Nat.lt_of_lt_of_le h (Nat.pow_le_pow_right (by decide) l)

abbrev st_Exact_mul : Stmt := inClass (topS 9) 3
theorem sc_Exact_mul : FnScope ["self", "other"] ["self", "other"] (defScope st_Exact_mul) := ⟨rfl, rfl, rfl, by decide +kernel, rfl, by decide +kernel, by decide +kernel⟩
def spMul (C : Addr) : Sp := fun vs H Q _ => ∃ (x y : V) (p q : Rat) (n m : Nat), vs = [x, y] ∧ ExA C H x p ∧ ExA C H y q ∧ Bd n p ∧ Bd m q ∧ 0 < n ∧ 0 < m ∧ n + m ≤ 9000 ∧ ∀ v H', Same H H' → ExA C H' v (p * q) → Q v H'
theorem ok_mul (D : MDef K C "__mul__" "Exact.__mul__" st_Exact_mul ["self", "other"]) (T : Txt K mg C Cw) (i_Exact : ICal P w K mg base "Exact" C 2 ["self", "top", "bottom"] (spInitE C)) :
    MCal P w K mg base C "__mul__" 4 ["self", "other"] (spMul C) := by
  refine D.ok sc_Exact_mul (fun vs H Q E h => ?_) (fun f cdv A outer s H vs Q E hr h => ?_)
  · obtain ⟨x, y, p, q, n, m, rfl, _⟩ := h
    rfl
  · obtain ⟨x, y, p, q, n, m, rfl, ⟨a, dx, rfl, ha⟩, ⟨b, dy, rfl, hb⟩, bp, bq, hn, hm, hnm, k⟩ := h
    refine ⟨_, (pss_one (ps_ret (pe_ical i_Exact (hr.mono (by decide)) (by rfl) (pa_cons (pe_op op_mulW (pe_fld (pv 0) rfl) (pe_fld (pv 1) rfl)) (pa_cons (pe_op op_mulW (pe_fld (pv 0) rfl) (pe_fld (pv 1) rfl)) pa_nil))))), ?_⟩
    refine ⟨_, rfl, a, C, dx, _, _, rfl, ha, T.clE, T.nTop, exF_top p, _, rfl, b, C, dy, _, _, rfl, hb, T.clE, T.nTop, exF_top q, _, _, rfl, rfl, wide_mul bp.1 bq.1 hn hm (by omega), ?_⟩
    refine ⟨_, rfl, a, C, dx, _, _, rfl, ha, T.clE, T.nBot, exF_bot p, _, rfl, b, C, dy, _, _, rfl, hb, T.clE, T.nBot, exF_bot q, _, _, rfl, rfl, wide_mul bp.2 bq.2 hn hm (by omega), ?_⟩
    refine mkE (den_ne p q) ?_ fun v H2 s2 x2 => k v H2 s2 ?_
    · rw [Int.natAbs_mul]
      exact lt9000 (nat_mul_lt bp.2 bq.2) hnm
    · rw [← mul_divInt]
      exact x2

abbrev st_Exact_add : Stmt := inClass (topS 9) 1
theorem sc_Exact_add : FnScope ["self", "other"] ["self", "other"] (defScope st_Exact_add) := ⟨rfl, rfl, rfl, by decide +kernel, rfl, by decide +kernel, by decide +kernel⟩
def spAdd (C : Addr) : Sp := fun vs H Q _ => ∃ (x y : V) (p q : Rat) (n m : Nat), vs = [x, y] ∧ ExA C H x p ∧ ExA C H y q ∧ Bd n p ∧ Bd m q ∧ 0 < n ∧ 0 < m ∧ n + m ≤ 9000 ∧ ∀ v H', Same H H' → ExA C H' v (p + q) → Q v H'
theorem ok_add (D : MDef K C "__add__" "Exact.__add__" st_Exact_add ["self", "other"]) (T : Txt K mg C Cw) (i_Exact : ICal P w K mg base "Exact" C 2 ["self", "top", "bottom"] (spInitE C)) :
    MCal P w K mg base C "__add__" 4 ["self", "other"] (spAdd C) := by
  refine D.ok sc_Exact_add (fun vs H Q E h => ?_) (fun f cdv A outer s H vs Q E hr h => ?_)
  · obtain ⟨x, y, p, q, n, m, rfl, _⟩ := h
    rfl
  · obtain ⟨x, y, p, q, n, m, rfl, ⟨a, dx, rfl, ha⟩, ⟨b, dy, rfl, hb⟩, bp, bq, hn, hm, hnm, k⟩ := h
    refine ⟨_, (pss_one (ps_ret (pe_ical i_Exact (hr.mono (by decide)) (by rfl) (pa_cons (pe_op op_add (pe_op op_mulW (pe_fld (pv 0) rfl) (pe_fld (pv 1) rfl)) (pe_op op_mulW (pe_fld (pv 1) rfl) (pe_fld (pv 0) rfl))) (pa_cons (pe_op op_mulW (pe_fld (pv 0) rfl) (pe_fld (pv 1) rfl)) pa_nil))))), ?_⟩
    refine ⟨_, rfl, a, C, dx, _, _, rfl, ha, T.clE, T.nTop, exF_top p, _, rfl, b, C, dy, _, _, rfl, hb, T.clE, T.nBot, exF_bot q, _, _, rfl, rfl, wide_mul bp.1 bq.2 hn hm (by omega), ?_⟩
    refine ⟨_, rfl, b, C, dy, _, _, rfl, hb, T.clE, T.nTop, exF_top q, _, rfl, a, C, dx, _, _, rfl, ha, T.clE, T.nBot, exF_bot p, _, _, rfl, rfl, wide_mul bq.1 bp.2 hm hn (by omega), _, _, rfl, rfl, ?_⟩
    refine ⟨_, rfl, a, C, dx, _, _, rfl, ha, T.clE, T.nBot, exF_bot p, _, rfl, b, C, dy, _, _, rfl, hb, T.clE, T.nBot, exF_bot q, _, _, rfl, rfl, wide_mul bp.2 bq.2 hn hm (by omega), ?_⟩
    refine mkE (den_ne p q) ?_ fun v H2 s2 x2 => k v H2 s2 ?_
    · rw [Int.natAbs_mul]
      exact lt9000 (nat_mul_lt bp.2 bq.2) hnm
    · rw [← add_divInt]
      exact x2

abbrev st_Exact_over : Stmt := inClass (topS 9) 5
theorem sc_Exact_over : FnScope ["self", "other"] ["self", "other"] (defScope st_Exact_over) := ⟨rfl, rfl, rfl, by decide +kernel, rfl, by decide +kernel, by decide +kernel⟩
def spOver (C : Addr) : Sp := fun vs H Q _ => ∃ (x y : V) (p q : Rat) (n m : Nat), vs = [x, y] ∧ ExA C H x p ∧ ExA C H y q ∧ 0 < q ∧ Bd n p ∧ Bd m q ∧ 0 < n ∧ 0 < m ∧ n + m ≤ 9000 ∧ ∀ v H', Same H H' → ExA C H' v (p / q) → Q v H'
theorem ok_over (D : MDef K C "over" "Exact.over" st_Exact_over ["self", "other"]) (T : Txt K mg C Cw) (i_Exact : ICal P w K mg base "Exact" C 2 ["self", "top", "bottom"] (spInitE C)) :
    MCal P w K mg base C "over" 4 ["self", "other"] (spOver C) := by
  refine D.ok sc_Exact_over (fun vs H Q E h => ?_) (fun f cdv A outer s H vs Q E hr h => ?_)
  · obtain ⟨x, y, p, q, n, m, rfl, _⟩ := h
    rfl
  · obtain ⟨x, y, p, q, n, m, rfl, ⟨a, dx, rfl, ha⟩, ⟨b, dy, rfl, hb⟩, hq, bp, bq, hn, hm, hnm, k⟩ := h
    refine ⟨_, (pss_one (ps_ret (pe_ical i_Exact (hr.mono (by decide)) (by rfl) (pa_cons (pe_op op_mulW (pe_fld (pv 0) rfl) (pe_fld (pv 1) rfl)) (pa_cons (pe_op op_mulW (pe_fld (pv 0) rfl) (pe_fld (pv 1) rfl)) pa_nil))))), ?_⟩
    refine ⟨_, rfl, a, C, dx, _, _, rfl, ha, T.clE, T.nTop, exF_top p, _, rfl, b, C, dy, _, _, rfl, hb, T.clE, T.nBot, exF_bot q, _, _, rfl, rfl, wide_mul bp.1 bq.2 hn hm (by omega), ?_⟩
    refine ⟨_, rfl, a, C, dx, _, _, rfl, ha, T.clE, T.nBot, exF_bot p, _, rfl, b, C, dy, _, _, rfl, hb, T.clE, T.nTop, exF_top q, _, _, rfl, rfl, wide_mul bp.2 bq.1 hn hm (by omega), ?_⟩
    have n1 := num_pos hq
    have n2 := p.den_pos
    refine mkE (Int.mul_ne_zero (by omega) (by omega)) ?_ fun v H2 s2 x2 => k v H2 s2 ?_
    · rw [Int.natAbs_mul]
      exact lt9000 (nat_mul_lt bp.2 bq.1) hnm
    · rw [← over_divInt]
      exact x2

abbrev st_Exact_square : Stmt := inClass (topS 9) 8
theorem sc_Exact_square : FnScope ["self"] ["self"] (defScope st_Exact_square) := ⟨rfl, rfl, rfl, by decide +kernel, rfl, by decide +kernel, by decide +kernel⟩
def spSquare (C : Addr) : Sp := fun vs H Q _ => ∃ (x : V) (p : Rat) (n : Nat), vs = [x] ∧ ExA C H x p ∧ Bd n p ∧ 0 < n ∧ n + n ≤ 9000 ∧ ∀ v H', Same H H' → ExA C H' v (p * p) → Q v H'
theorem ok_square (D : MDef K C "square" "Exact.square" st_Exact_square ["self"]) (T : Txt K mg C Cw) (i_Exact : ICal P w K mg base "Exact" C 2 ["self", "top", "bottom"] (spInitE C)) :
    MCal P w K mg base C "square" 4 ["self"] (spSquare C) := by
  refine D.ok sc_Exact_square (fun vs H Q E h => ?_) (fun f cdv A outer s H vs Q E hr h => ?_)
  · obtain ⟨x, p, n, rfl, _⟩ := h
    rfl
  · obtain ⟨x, p, n, rfl, ⟨a, dx, rfl, ha⟩, bp, hn, hnm, k⟩ := h
    refine ⟨_, (pss_one (ps_ret (pe_ical i_Exact (hr.mono (by decide)) (by rfl) (pa_cons (pe_op op_mulW (pe_fld (pv 0) rfl) (pe_fld (pv 0) rfl)) (pa_cons (pe_op op_mulW (pe_fld (pv 0) rfl) (pe_fld (pv 0) rfl)) pa_nil))))), ?_⟩
    refine ⟨_, rfl, a, C, dx, _, _, rfl, ha, T.clE, T.nTop, exF_top p, _, rfl, a, C, dx, _, _, rfl, ha, T.clE, T.nTop, exF_top p, _, _, rfl, rfl, wide_mul bp.1 bp.1 hn hn (by omega), ?_⟩
    refine ⟨_, rfl, a, C, dx, _, _, rfl, ha, T.clE, T.nBot, exF_bot p, _, rfl, a, C, dx, _, _, rfl, ha, T.clE, T.nBot, exF_bot p, _, _, rfl, rfl, wide_mul bp.2 bp.2 hn hn (by omega), ?_⟩
    refine mkE (den_ne p p) ?_ fun v H2 s2 x2 => k v H2 s2 ?_
    · rw [Int.natAbs_mul]
      exact lt9000 (nat_mul_lt bp.2 bp.2) hnm
    · rw [← mul_divInt]
      exact x2

abbrev st_Exact_pair : Stmt := inClass (topS 9) 9
theorem sc_Exact_pair : FnScope ["self"] ["self"] (defScope st_Exact_pair) := ⟨rfl, rfl, rfl, by decide +kernel, rfl, by decide +kernel, by decide +kernel⟩
def spPair (K : PySem.W.Frag) (C : Addr) : Sp := fun vs H Q _ => ∃ (x : V) (p : Rat), vs = [x] ∧ ExA C H x p ∧ ∀ v H', Same H H' → FrA K H' v p → Q v H'
theorem ok_pair (D : MDef K C "pair" "Exact.pair" st_Exact_pair ["self"]) (T : Txt K mg C Cw) : MCal P w K mg base C "pair" 1 ["self"] (spPair K C) := by
  refine D.ok sc_Exact_pair (fun vs H Q E h => ?_) (fun f cdv A outer s H vs Q E hr h => ?_)
  · obtain ⟨x, p, rfl, _⟩ := h
    rfl
  · obtain ⟨x, p, rfl, ⟨a, dx, rfl, ha⟩, k⟩ := h
    refine ⟨_, (pss_one (ps_ret (pe_tup (pa_cons (pe_fld (pv 0) rfl) (pa_cons (pe_fld (pv 0) rfl) pa_nil))))), ?_⟩
    refine ⟨_, rfl, a, C, dx, _, _, rfl, ha, T.clE, T.nTop, exF_top p, _, rfl, a, C, dx, _, _, rfl, ha, T.clE, T.nBot, exF_bot p, by show 2 ≤ sizeLine; decide, fun t ht => ?_⟩
    exact k _ _ (same_upd ht) ⟨t, rfl, SqT.of upd_same⟩

abbrev st_Exact_eq : Stmt := inClass (topS 9) 4
theorem sc_Exact_eq : FnScope ["self", "other"] ["self", "other"] (defScope st_Exact_eq) := ⟨rfl, rfl, rfl, by decide +kernel, rfl, by decide +kernel, by decide +kernel⟩
def spEqE (C : Addr) : Sp := fun vs H Q _ => ∃ (x y : V) (p q : Rat), vs = [x, y] ∧ ExA C H x p ∧ ExA C H y q ∧ Q (.bl (decide (p = q))) H
theorem ok_eq (D : MDef K C "__eq__" "Exact.__eq__" st_Exact_eq ["self", "other"]) (T : Txt K mg C Cw) : MCal P w K mg base C "__eq__" 1 ["self", "other"] (spEqE C) := by
  refine D.ok sc_Exact_eq (fun vs H Q E h => ?_) (fun f cdv A outer s H vs Q E hr h => ?_)
  · obtain ⟨x, y, p, q, rfl, _⟩ := h
    rfl
  · obtain ⟨x, y, p, q, rfl, ⟨a, dx, rfl, ha⟩, ⟨b, dy, rfl, hb⟩, k⟩ := h
    refine ⟨_, (pss_one (ps_ret (pe_and (pe_callB (C8.call_isC T.inE) (by rfl) T.z_isinstance (by decide +kernel) (pa_cons (pv 1) (pa_cons (pe_glob (by rfl) T.m_Exact T.r_Exact) pa_nil))) (pe_and (pe_cmpR op_eq (pe_fld (pv 0) rfl) (pe_fld (pv 1) rfl) (nomark _)) (pe_one (pe_cmpR op_eq (pe_fld (pv 0) rfl) (pe_fld (pv 1) rfl) (nomark _))))))), ?_⟩
    refine ⟨_, rfl, b, dy, _, rfl, hb, true, rfl, iteT ?_⟩
    refine ⟨_, rfl, a, C, dx, _, _, rfl, ha, T.clE, T.nTop, exF_top p, _, rfl, b, C, dy, _, _, rfl, hb, T.clE, T.nTop, exF_top q, rfl, _, rfl, ite2 (fun c => ?_) (fun c => ?_)⟩
    · have e1 : p.num = q.num := V.int.inj (of_decide_eq_true c)
      refine ⟨_, rfl, a, C, dx, _, _, rfl, ha, T.clE, T.nBot, exF_bot p, _, rfl, b, C, dy, _, _, rfl, hb, T.clE, T.nBot, exF_bot q, rfl, ?_⟩
      have e2 : decide (V.int (p.den : Int) = V.int (q.den : Int)) = decide (p = q) := by
        rw [decide_eq_decide]
        constructor
        · intro e
          have e3 := V.int.inj e
          exact Rat.ext e1 (by omega)
        · intro e
          rw [e]
      show Q (.bl (decide (V.int (p.den : Int) = V.int (q.den : Int)))) H
      rw [e2]
      exact k
    · have e2 : decide (p = q) = false := decide_eq_false fun e => c (by rw [e]; exact decide_eq_true rfl)
      rw [e2] at k
      exact k

abbrev st_exact : Stmt := topS 10
theorem sc_exact : FnScope ["pair"] ["pair"] (defScope st_exact) := ⟨rfl, rfl, rfl, by decide +kernel, rfl, by decide +kernel, by decide +kernel⟩
def spExact (K : PySem.W.Frag) (C : Addr) : Sp := fun vs H Q _ => ∃ (x : V) (q : Rat) (n : Nat), vs = [x] ∧ FrA K H x q ∧ Bd n q ∧ n ≤ 9000 ∧ ∀ v H', Same H H' → ExA C H' v q → Q v H'
theorem ok_exact (D : Def K mg "exact" st_exact ["pair"]) (T : Txt K mg C Cw) (i_Exact : ICal P w K mg base "Exact" C 2 ["self", "top", "bottom"] (spInitE C)) :
    Cal P w K mg base "exact" 4 ["pair"] (spExact K C) := by
  refine D.ok sc_exact (fun vs H Q E h => ?_) (fun f cdv A outer s H vs Q E hr h => ?_)
  · obtain ⟨x, q, n, rfl, _⟩ := h
    rfl
  · obtain ⟨x, q, n, rfl, ⟨a, rfl, ha⟩, bq, hn, k⟩ := h
    refine ⟨_, (pss_one (ps_ret (pe_ical i_Exact (hr.mono (by decide)) (by rfl) (pa_cons (pe_ix ix_tup (pv 0) pe_int (fun _ _ => rfl)) (pa_cons (pe_ix ix_tup (pv 0) pe_int (fun _ _ => rfl)) pa_nil))))), ?_⟩
    refine ⟨_, rfl, a, _, _, _, rfl, rfl, ha, atI_nat (j := 0) rfl, _, rfl, a, _, _, _, rfl, rfl, ha, atI_nat (j := 1) rfl, ?_⟩
    have := q.den_pos
    refine mkE (by omega) (lt9000 bq.2 hn) fun v H2 s2 x2 => k v H2 s2 ?_
    rw [Rat.num_divInt_den] at x2
    exact x2

abbrev st_is_fraction : Stmt := topS 12
theorem sc_is_fraction : FnScope ["thing"] ["thing"] (defScope st_is_fraction) := ⟨rfl, rfl, rfl, by decide +kernel, rfl, by decide +kernel, by decide +kernel⟩
def spFrac (K : PySem.W.Frag) : Sp := fun vs H Q _ => ∃ (x : V) (q : Rat), vs = [x] ∧ FrA K H x q ∧ Q (.bl true) H
theorem fr_ty {H : Hp} {a : Addr} {xs : List V} (h : SqT K H a xs) : TyX K H (.ref a) (.type "tuple") := by
  rcases h with (h | ⟨o, h⟩) | ⟨o, its, n, h, hc, _⟩
  · exact .base (.tup h)
  · exact .fTuple h
  · exact .kTuple h hc
theorem ok_is_fraction (D : Def K mg "is_fraction" st_is_fraction ["thing"]) (T : Txt K mg C Cw) (c_is_integer : Cal P w K mg base "is_integer" 1 ["thing"] spInt) (c_common : Cal P w K mg base "common" 1 ["one", "other"] spCommon) :
    Cal P w K mg base "is_fraction" 2 ["thing"] (spFrac K) := by
  refine D.ok sc_is_fraction (fun vs H Q E h => ?_) (fun f cdv A outer s H vs Q E hr h => ?_)
  · obtain ⟨x, q, rfl, _⟩ := h
    rfl
  · obtain ⟨x, q, rfl, ⟨a, rfl, ha⟩, k⟩ := h
    refine ⟨_, (pss_cons (ps_if (PW.pt (pw_or (pt_not (pt_val (pe_callB call_isi (by rfl) T.z_isinstance (by decide +kernel) (pa_cons (pv 0) (pa_cons (pe_bltn (v := .ty "tuple") (by rfl) T.z_tuple (by decide +kernel) rfl) pa_nil))))) (pw_or (pt_cmpR op_ne (pe_callB call_len_seq (by rfl) T.z_len (by decide +kernel) (pa_cons (pv 0) pa_nil)) pe_int (nomark _)) (pw_or (pt_not (pt_val (pe_cal c_is_integer (hr.mono (by decide)) (by rfl) (pa_cons (pe_ix ix_tup (pv 0) pe_int (fun _ _ => rfl)) pa_nil)))) (pw_or1 (pt_not (pt_val (pe_cal c_is_integer (hr.mono (by decide)) (by rfl) (pa_cons (pe_ix ix_tup (pv 0) pe_int (fun _ _ => rfl)) pa_nil))))))))) (pss_one (ps_ret pe_bl)) pss_nil)
        (pss_one (ps_ret (pe_and (pe_cmpR op_gt (pe_ix ix_tup (pv 0) pe_int (fun _ _ => rfl)) pe_int (nomark _)) (pe_one (pe_cmpR op_eq (pe_cal c_common (hr.mono (by decide)) (by rfl) (pa_cons (pe_ix ix_tup (pv 0) pe_int (fun _ _ => rfl)) (pa_cons (pe_ix ix_tup (pv 0) pe_int (fun _ _ => rfl)) pa_nil))) pe_int (nomark _))))))), ?_⟩
    refine ⟨_, rfl, _, _, _, _, _, rfl, .ty "tuple", fr_ty ha, kit_ty (b := "tuple") (r := true) (by decide +kernel), true, rfl, iteF ?_⟩
    refine ⟨_, rfl, a, _, rfl, .inr ha, rfl, _, rfl, iteF ?_⟩
    refine ⟨_, rfl, a, _, _, _, rfl, rfl, ha, atI_nat (j := 0) rfl, _, rfl, true, rfl, iteF ?_⟩
    refine ⟨_, rfl, a, _, _, _, rfl, rfl, ha, atI_nat (j := 1) rfl, _, rfl, true, rfl, iteF ?_⟩
    have hd := q.den_pos
    refine ⟨_, rfl, a, _, _, _, rfl, rfl, ha, atI_nat (j := 1) rfl, _, _, rfl, rfl, true, by simp [hd], iteT ?_⟩
    refine ⟨_, rfl, a, _, _, _, rfl, rfl, ha, atI_nat (j := 0) rfl, _, rfl, a, _, _, _, rfl, rfl, ha, atI_nat (j := 1) rfl, _, _, rfl, rfl, ?_⟩
    have e : Int.gcd q.num q.den = 1 := by
      have := q.reduced
      unfold Nat.Coprime at this
      unfold Int.gcd
      rw [Int.natAbs_natCast]
      exact this
    show Q (.bl (decide (V.int (Int.gcd q.num q.den : Int) = V.int 1))) H
    rw [e]
    exact k
abbrev st_is_some : Stmt := topS 13
theorem sc_is_some : FnScope ["thing"] ["thing"] (defScope st_is_some) := ⟨rfl, rfl, rfl, by decide +kernel, rfl, by decide +kernel, by decide +kernel⟩
def spSome (K : PySem.W.Frag) : Sp := fun vs H Q _ => ∃ (x : V) (q : Rat), vs = [x] ∧ FrA K H x q ∧ 0 < q ∧ Q (.bl true) H
theorem ok_is_some (D : Def K mg "is_some" st_is_some ["thing"]) (T : Txt K mg C Cw) (c_is_fraction : Cal P w K mg base "is_fraction" 2 ["thing"] (spFrac K)) :
    Cal P w K mg base "is_some" 3 ["thing"] (spSome K) := by
  refine D.ok sc_is_some (fun vs H Q E h => ?_) (fun f cdv A outer s H vs Q E hr h => ?_)
  · obtain ⟨x, q, rfl, _⟩ := h
    rfl
  · obtain ⟨x, q, rfl, ⟨a, rfl, ha⟩, hq, k⟩ := h
    refine ⟨_, (pss_one (ps_ret (pe_and (pe_cal c_is_fraction (hr.mono (by decide)) (by rfl) (pa_cons (pv 0) pa_nil)) (pe_one (pe_cmpR op_gt (pe_ix ix_tup (pv 0) pe_int (fun _ _ => rfl)) pe_int (nomark _)))))), ?_⟩
    have hp := num_pos hq
    refine ⟨_, rfl, _, _, rfl, ⟨a, rfl, ha⟩, true, rfl, iteT ?_⟩
    refine ⟨_, rfl, a, _, _, _, rfl, rfl, ha, atI_nat (j := 0) rfl, _, _, rfl, rfl, ?_⟩
    have e : decide ((0 : Int) < q.num) = true := decide_eq_true hp
    show Q (.bl (decide ((0 : Int) < q.num))) H
    rw [e]
    exact k
end
end K32
end

section
set_option Elab.async false
set_option linter.all false
set_option maxRecDepth 100000
set_option maxHeartbeats 4000000
/-! K32O: stalls and webs. -/
namespace K32
open PySem PySem.Spec PyProof.Rows L2

/-! ### how stalls and webs stand -/
def StA (K : PySem.W.Frag) (H : Hp) (v : V) (s : Stall) : Prop := ∃ a x y z, v = .ref a ∧ SqT K H a [.int s.one, .int s.other, x, y, z] ∧ FrA K H x s.here ∧ FrA K H y s.beside ∧ FrA K H z s.root
theorem StA.same {K : PySem.W.Frag} {H H' : Hp} {v : V} {s : Stall} (h : StA K H v s) (e : Same H H') : StA K H' v s := by
  obtain ⟨a, x, y, z, rfl, h, h1, h2, h3⟩ := h
  exact ⟨a, x, y, z, rfl, h.ext e, h1.same e, h2.same e, h3.same e⟩
def StAll (K : PySem.W.Frag) (H : Hp) : List V → List Stall → Prop := Paired (StA K H)
theorem StAll.same {K : PySem.W.Frag} {H H' : Hp} {vs : List V} {S : List Stall} (h : StAll K H vs S) (e : Same H H') : StAll K H' vs S := Paired.mapP h fun _ _ q => q.same e
theorem StAll.len {K : PySem.W.Frag} {H : Hp} {vs : List V} {S : List Stall} (h : StAll K H vs S) : vs.length = S.length := Paired.length h
theorem StAll.get {K : PySem.W.Frag} {H : Hp} : ∀ {vs : List V} {S : List Stall} {i : Nat} {v : V}, StAll K H vs S → vs[i]? = some v → ∃ s, S[i]? = some s ∧ StA K H v s
  | _, _, _, _, .nil, e => by simp at e
  | _, _, 0, _, .cons r _, e => by
    simp at e
    subst e
    exact ⟨_, rfl, r⟩
  | _, _, i + 1, v, .cons _ t, e => by
    obtain ⟨u, h1, h2⟩ := StAll.get (i := i) (v := v) t (by simpa using e)
    exact ⟨u, by simpa using h1, h2⟩
theorem StAll.get' {K : PySem.W.Frag} {H : Hp} : ∀ {vs : List V} {S : List Stall} {i : Nat} {s : Stall}, StAll K H vs S → S[i]? = some s → ∃ v, vs[i]? = some v ∧ StA K H v s
  | _, _, _, _, .nil, e => by simp at e
  | _, _, 0, _, .cons r _, e => by
    simp at e
    subst e
    exact ⟨_, rfl, r⟩
  | _, _, i + 1, v, .cons _ t, e => by
    obtain ⟨u, h1, h2⟩ := StAll.get' (i := i) (s := v) t (by simpa using e)
    exact ⟨u, by simpa using h1, h2⟩
theorem StAll.app {K : PySem.W.Frag} {H : Hp} : ∀ {vs us : List V} {S T : List Stall}, StAll K H vs S → StAll K H us T → StAll K H (vs ++ us) (S ++ T)
  | _, _, _, _, .nil, k => k
  | _, _, _, _, .cons a b, k => .cons a (StAll.app b k)
/-- right stalls whose numbers are short -/
structure BdS (s : Stall) : Prop where
  h : Bd 12 s.here
  b : Bd 12 s.beside
  r : Bd 12 s.root
structure GoodW (n : Int) (S : List Stall) : Prop where
  n1 : 1 ≤ n
  n8 : n ≤ 8
  len : S.length ≤ 8
  good : Good n S
  bd : ∀ s ∈ S, BdS s
theorem BdS.hold {s : Stall} (b : BdS s) (w : Int) : Bd 12 (s.hold w) := by
  unfold Stall.hold
  split
  · exact b.h
  · exact b.b
def webF (n : Int) (t : Addr) : List (Str × V) := putF "stalls" (.ref t) (putF "wares" (.int n) [])
theorem ws_ : ¬ (("wares" : Str) = "stalls") := by decide +kernel
theorem webF_wares (n : Int) (t : Addr) : (webF n t).lookup ("wares" : Str) = some (.int n) := by
  unfold webF
  rw [lookup_putF, if_neg ws_, lookup_putF, if_pos rfl]
theorem webF_stalls (n : Int) (t : Addr) : (webF n t).lookup ("stalls" : Str) = some (.ref t) := by
  unfold webF
  rw [lookup_putF, if_pos rfl]
def WebA (K : PySem.W.Frag) (Cw : Addr) (H : Hp) (v : V) (n : Int) (S : List Stall) : Prop := ∃ a dx t vs, v = .ref a ∧ H a = some (.ins Cw dx (webF n t)) ∧ SqT K H t vs ∧ StAll K H vs S
theorem WebA.same {K : PySem.W.Frag} {Cw : Addr} {H H' : Hp} {v : V} {n : Int} {S : List Stall} (h : WebA K Cw H v n S) (e : Same H H') : WebA K Cw H' v n S := by
  obtain ⟨a, dx, t, vs, rfl, h1, h2, h3⟩ := h
  exact ⟨a, dx, t, vs, rfl, e _ _ h1, h2.ext e, h3.same e⟩
section
variable {P : Program} {w : World} {K : PySem.W.Frag} {mg : Str → Option Value} {base : Heap} {C Cw : Addr}

abbrev st_is_ware_below : Stmt := topS 17
theorem sc_is_ware_below : FnScope ["thing", "wares"] ["thing", "wares"] (defScope st_is_ware_below) := ⟨rfl, rfl, rfl, by decide +kernel, rfl, by decide +kernel, by decide +kernel⟩
def spWare : Sp := fun vs H Q _ => ∃ i n : Int, vs = [.int i, .int n] ∧ 0 ≤ i ∧ i < n ∧ Q (.bl true) H
theorem ok_is_ware_below (D : Def K mg "is_ware_below" st_is_ware_below ["thing", "wares"]) (T : Txt K mg C Cw) (c_is_integer : Cal P w K mg base "is_integer" 1 ["thing"] spInt) :
    Cal P w K mg base "is_ware_below" 2 ["thing", "wares"] spWare := by
  refine D.ok sc_is_ware_below (fun vs H Q E h => ?_) (fun f cdv A outer s H vs Q E hr h => ?_)
  · obtain ⟨i, n, rfl, _⟩ := h
    rfl
  · obtain ⟨i, n, rfl, h0, h1, k⟩ := h
    refine ⟨_, (pss_one (ps_ret (pe_and (pe_cal c_is_integer (hr.mono (by decide)) (by rfl) (pa_cons (pv 0) pa_nil)) (pe_one (pe_chain op_le op_lt pe_int (pv 0) (pv 1)))))), ?_⟩
    refine ⟨_, rfl, _, rfl, true, rfl, iteT ?_⟩
    refine ⟨_, rfl, _, _, rfl, rfl, true, by simp [h0], iteT ?_⟩
    refine ⟨_, rfl, _, _, rfl, rfl, ?_⟩
    show Q (.bl (decide (i < n))) H
    rw [decide_eq_true h1]
    exact k

theorem iteN {b : Bool} {A B : Prop} (e : b = false) (h : B) : if b = true then A else B := by
  rw [e]
  exact h
theorem iteY {b : Bool} {A B : Prop} (e : b = true) (h : A) : if b = true then A else B := by
  rw [e]
  exact h
theorem yes_if {σ : L2.St} {H : Hp} {A B : Hp → Prop} (h : A H) : tYes σ H (fun b H3 => if b = true then A H3 else B H3) := by
  show (if true = true then A H else B H)
  rw [if_pos rfl]
  exact h
theorem exF_sq (q : Rat) : (exF q).lookup ("square" : Str) = none := by
  unfold exF
  rw [lookup_putF, if_neg (by decide +kernel), lookup_putF, if_neg (by decide +kernel)]
  rfl
theorem exF_over (q : Rat) : (exF q).lookup ("over" : Str) = none := by
  unfold exF
  rw [lookup_putF, if_neg (by decide +kernel), lookup_putF, if_neg (by decide +kernel)]
  rfl
theorem exF_pair (q : Rat) : (exF q).lookup ("pair" : Str) = none := by
  unfold exF
  rw [lookup_putF, if_neg (by decide +kernel), lookup_putF, if_neg (by decide +kernel)]
  rfl
abbrev st_is_stall : Stmt := topS 18
theorem sc_is_stall : FnScope ["thing", "wares", "ware", "amount"] ["thing", "wares"] (defScope st_is_stall) := ⟨rfl, rfl, rfl, by decide +kernel, rfl, by decide +kernel, by decide +kernel⟩
def spIsStall (K : PySem.W.Frag) : Sp := fun vs H Q _ => ∃ (v : V) (n : Int) (s : Stall), vs = [v, .int n] ∧ StA K H v s ∧ GoodS n s ∧ BdS s ∧ ∀ H', Same H H' → Q (.bl true) H'
theorem all_true (n : Nat) : (List.replicate n true).all id = true := by
  induction n with
  | zero => rfl
  | succ n ih => rw [List.replicate_succ, List.all_cons, ih]; rfl
theorem rep_snoc (n : Nat) : (List.replicate n true).map V.bl ++ [V.bl true] = (List.replicate (n + 1) true).map V.bl := by
  rw [List.replicate_succ', List.map_append]
  rfl
theorem ok_is_stall (D : Def K mg "is_stall" st_is_stall ["thing", "wares"]) (T : Txt K mg C Cw) (c_is_ware_below : Cal P w K mg base "is_ware_below" 2 ["thing", "wares"] spWare) (c_is_some : Cal P w K mg base "is_some" 3 ["thing"] (spSome K))
    (c_exact : Cal P w K mg base "exact" 4 ["pair"] (spExact K C)) (m_mul : MCal P w K mg base C "__mul__" 4 ["self", "other"] (spMul C)) (m_square : MCal P w K mg base C "square" 4 ["self"] (spSquare C)) (m_eq : MCal P w K mg base C "__eq__" 1 ["self", "other"] (spEqE C)) :
    Cal P w K mg base "is_stall" 5 ["thing", "wares"] (spIsStall K) := by
  refine D.ok sc_is_stall (fun vs H Q E h => ?_) (fun f cdv A outer s H vs Q E hr h => ?_)
  · obtain ⟨v, n, st, rfl, _⟩ := h
    rfl
  · obtain ⟨v, n, st, rfl, ⟨a, x, y, z, rfl, ha, fx, fy, fz⟩, g, b, k⟩ := h
    refine ⟨_, (pss_cons (ps_if (PW.pt (pw_or (pt_not (pt_val (pe_callB call_isi (by rfl) T.z_isinstance (by decide +kernel) (pa_cons (pv 0) (pa_cons (pe_bltn (v := .ty "tuple") (by rfl) T.z_tuple (by decide +kernel) rfl) pa_nil))))) (pw_or (pt_cmpR op_ne (pe_callB call_len_seq (by rfl) T.z_len (by decide +kernel) (pa_cons (pv 0) pa_nil)) pe_int (nomark _)) (pw_or1 (pt_not (pt_val (pe_callB (cr_all rfl) (by rfl) T.z_all (by decide +kernel) (pa_cons (pe_lc (own := [("ware", 2)]) (by rfl) sc_is_stall.nd (pi_tup (pe_slice sl_tup (pv 0) po_none (po_some pe_int))) (blkOk_by (own := [("ware", 2)]) (by kernel_rfl)) (fun _ _ _ _ _ => (pg_name (i := 2) sc_is_stall.nd rfl (Or.inl rfl))) (fun _ _ _ _ _ => pts_nil) (fun _ _ _ _ _ => (pe_cal c_is_ware_below (hr.mono (by decide)) (by rfl) (pa_cons (pv 2) (pa_cons (pv 1) pa_nil))))) pa_nil)))))))) (pss_one (ps_ret pe_bl)) pss_nil)
        (pss_cons (ps_if (PW.pt (pw_or (pt_cmpR op_eq (pe_ix ix_tup (pv 0) pe_int (fun _ _ => rfl)) (pe_ix ix_tup (pv 0) pe_int (fun _ _ => rfl)) (nomark _)) (pw_or1 (pt_not (pt_val (pe_callB (cr_all rfl) (by rfl) T.z_all (by decide +kernel) (pa_cons (pe_lc (own := [("amount", 3)]) (by rfl) sc_is_stall.nd (pi_tup (pe_slice sl_tup (pv 0) (po_some pe_int) po_none)) (blkOk_by (own := [("amount", 3)]) (by kernel_rfl)) (fun _ _ _ _ _ => (pg_name (i := 3) sc_is_stall.nd rfl (Or.inl rfl))) (fun _ _ _ _ _ => pts_nil) (fun _ _ _ _ _ => (pe_cal c_is_some (hr.mono (by decide)) (by rfl) (pa_cons (pv 3) pa_nil)))) pa_nil))))))) (pss_one (ps_ret pe_bl)) pss_nil)
        (pss_one (ps_ret (pe_cmpR (op_eqIns m_eq (hr.mono (by decide))) (pe_op (op_ins (op := .Mult) m_mul (hr.mono (by decide)) T.sfE) (pe_cal c_exact (hr.mono (by decide)) (by rfl) (pa_cons (pe_ix ix_tup (pv 0) pe_int (fun _ _ => rfl)) pa_nil)) (pe_cal c_exact (hr.mono (by decide)) (by rfl) (pa_cons (pe_ix ix_tup (pv 0) pe_int (fun _ _ => rfl)) pa_nil))) (pe_mcal0 m_square (hr.mono (by decide)) T.clE (pe_cal c_exact (hr.mono (by decide)) (by rfl) (pa_cons (pe_ix ix_tup (pv 0) pe_int (fun _ _ => rfl)) pa_nil))) (nomark _)))))), ?_⟩
    refine ⟨_, rfl, _, _, _, _, _, rfl, .ty "tuple", fr_ty ha, kit_ty (b := "tuple") (r := true) (by decide +kernel), true, rfl, iteF ?_⟩
    refine ⟨_, rfl, a, _, rfl, .inr ha, rfl, _, rfl, iteF ?_⟩
    -- all([is_ware_below(ware, wares) for ware in thing[:2]])
    refine ⟨_, rfl, 2, rfl, a, _, rfl, ha, (by show ¬ (HT.sIx 5 0 none = 0 ∧ HT.sIx 5 5 (some 2) = 5); decide), fun p hp => ?_⟩
    refine ⟨p, rfl, ⟨_, SqT.of upd_same⟩, fun D hD => ?_⟩
    have hfD : ∀ x o, (upd H p (.tup [.int st.one, .int st.other])) x = some o → x ≠ D := fun x o e => ne_of_none e hD
    refine lc_tup (K := K) (xs := [.int st.one, .int st.other]) (fun i H' => Same (upd H p (.tup [.int st.one, .int st.other])) H' ∧ H' D = some (.lst ((List.replicate i true).map V.bl))) ⟨same_upd hD, upd_same⟩ (fun i H' _ h => SqT.of (h.1 _ _ upd_same)) ?_ ?_
    · rintro i v H' hi ⟨s1, d1⟩
      have hv : ∃ j : Int, v = .int j ∧ 0 ≤ j ∧ j < n := by
        match i, hi with
        | 0, hi => exact ⟨_, (Option.some.inj hi).symm, g.a0, g.a1⟩
        | 1, hi => exact ⟨_, (Option.some.inj hi).symm, g.b0, g.b1⟩
        | i + 2, hi => simp at hi
      obtain ⟨j, rfl, j0, j1⟩ := hv
      refine ⟨rfl, yes_if ?_⟩
      refine ⟨_, rfl, _, rfl, _, _, rfl, j0, j1, _, d1, by rw [List.length_map, List.length_replicate]; exact small1000 (by have := (List.getElem?_eq_some_iff.mp hi).1; simp at this; omega), Same.mut s1 hD, ?_⟩
      rw [upd_same, rep_snoc]
    · rintro H1 ⟨s1, d1⟩
      have sH : Same H H1 := (same_upd hp).trans s1
      have ha1 := ha.ext sH
      have ne : ¬ (V.int st.one = V.int st.other) := fun e => g.ne (V.int.inj e)
      refine ⟨D, List.replicate 2 true, rfl, SqL.of d1, true, rfl, iteF ?_⟩
      refine ⟨_, rfl, a, _, _, _, rfl, rfl, ha1, atI_nat (j := 0) rfl, _, rfl, a, _, _, _, rfl, rfl, ha1, atI_nat (j := 1) rfl, rfl, _, rfl, iteN (decide_eq_false ne) ?_⟩
      refine ⟨_, rfl, 2, rfl, a, _, rfl, ha1, (by show ¬ (HT.sIx 5 0 (some 2) = 0 ∧ HT.sIx 5 5 none = 5); decide), fun p2 hp2 => ?_⟩
      refine ⟨p2, rfl, ⟨_, SqT.of upd_same⟩, fun D2 hD2 => ?_⟩
      have s2 : Same H (upd H1 p2 (.tup [x, y, z])) := sH.trans (same_upd hp2)
      refine lc_tup (K := K) (xs := [x, y, z]) (fun i H' => Same (upd H1 p2 (.tup [x, y, z])) H' ∧ H' D2 = some (.lst ((List.replicate i true).map V.bl))) ⟨same_upd hD2, upd_same⟩ (fun i H' _ h => SqT.of (h.1 _ _ upd_same)) ?_ ?_
      · rintro i v H' hi ⟨s3, d3⟩
        have hv : ∃ q : Rat, FrA K H v q ∧ 0 < q := by
          match i, hi with
          | 0, hi => exact ⟨_, by cases hi; exact fx, g.h⟩
          | 1, hi => exact ⟨_, by cases hi; exact fy, g.b⟩
          | 2, hi => exact ⟨_, by cases hi; exact fz, g.r⟩
          | i + 3, hi => simp at hi
        obtain ⟨q, fv, q0⟩ := hv
        refine ⟨rfl, yes_if ?_⟩
        refine ⟨_, rfl, v, q, rfl, fv.same (s2.trans s3), q0, _, d3, by rw [List.length_map, List.length_replicate]; exact small1000 (by have := (List.getElem?_eq_some_iff.mp hi).1; simp at this; omega), Same.mut s3 hD2, ?_⟩
        rw [upd_same, rep_snoc]
      · rintro H2 ⟨s3, d3⟩
        have s4 := s2.trans s3
        have ha2 := ha.ext s4
        refine ⟨D2, List.replicate 3 true, rfl, SqL.of d3, true, rfl, iteF ?_⟩
        refine ⟨_, rfl, a, _, _, _, rfl, rfl, ha2, atI_nat (j := 2) rfl, x, st.here, 12, rfl, fx.same s4, b.h, by decide, fun v1 H3 s5 e1 => ?_⟩
        have ha3 := ha2.ext s5
        have s6 := s4.trans s5
        refine ⟨_, rfl, a, _, _, _, rfl, rfl, ha3, atI_nat (j := 3) rfl, y, st.beside, 12, rfl, fy.same s6, b.b, by decide, fun v2 H4 s7 e2 => ?_⟩
        obtain ⟨a1, dx1, rfl, g1⟩ := e1.same s7
        obtain ⟨a2, dx2, rfl, g2⟩ := e2
        refine ⟨a1, a2, dx1, dx2, _, _, rfl, rfl, g1, g2, _, _, _, _, 12, 12, rfl, ⟨_, _, rfl, g1⟩, ⟨_, _, rfl, g2⟩, b.h, b.b, by decide, by decide, by decide, fun v3 H5 s8 e3 => ?_⟩
        have s9 := (s6.trans s7).trans s8
        have ha5 := ha.ext s9
        refine ⟨_, rfl, a, _, _, _, rfl, rfl, ha5, atI_nat (j := 4) rfl, z, st.root, 12, rfl, fz.same s9, b.r, by decide, fun v4 H6 s10 e4 => ?_⟩
        obtain ⟨a4, dx4, rfl, g4⟩ := e4
        refine ⟨a4, dx4, _, rfl, g4, exF_sq _, _, _, 12, rfl, ⟨_, _, rfl, g4⟩, b.r, by decide, by decide, fun v5 H7 s11 e5 => ?_⟩
        obtain ⟨a3, dx3, rfl, g3⟩ := e3.same (s10.trans s11)
        obtain ⟨a5, dx5, rfl, g5⟩ := e5
        refine ⟨a3, a5, dx3, dx5, _, _, rfl, rfl, g3, g5, _, _, _, _, rfl, ⟨_, _, rfl, g3⟩, ⟨_, _, rfl, g5⟩, ?_⟩
        rw [decide_eq_true g.sq]
        exact k _ ((s9.trans s10).trans s11)

abbrev st_Web_init : Stmt := inClass (topS 19) 0
theorem sc_Web_init : FnScope ["self", "wares", "stalls", "index", "stall"] ["self", "wares", "stalls"] (defScope st_Web_init) := ⟨rfl, rfl, rfl, by decide +kernel, rfl, by decide +kernel, by decide +kernel⟩
def spInitW (K : PySem.W.Frag) (Cw : Addr) : Sp := fun vs H Q _ => ∃ (a dx l : Addr) (n : Int) (xs : List V) (S : List Stall), vs = [.ref a, .int n, .ref l] ∧ H a = some (.ins Cw dx []) ∧ H dx = some (.own a) ∧ H l = some (.lst xs) ∧ StAll K H xs S ∧ GoodW n S ∧
  ∀ t H', (∀ b o, b ≠ a → H b = some o → H' b = some o) → H' a = some (.ins Cw dx (webF n t)) → SqT K H' t xs → Q .non H'
theorem ok_Web (D : IDef K mg "Web" Cw "Web.__init__" st_Web_init ["self", "wares", "stalls"]) (T : Txt K mg C Cw) (c_is_integer : Cal P w K mg base "is_integer" 1 ["thing"] spInt) (c_is_stall : Cal P w K mg base "is_stall" 5 ["thing", "wares"] (spIsStall K)) :
    ICal P w K mg base "Web" Cw 6 ["self", "wares", "stalls"] (spInitW K Cw) := by
  refine D.ok sc_Web_init (fun vs H Q E h => ?_) (fun f cdv A outer s H vs Q E hr h => ?_)
  · obtain ⟨a, dx, l, n, xs, S, rfl, _⟩ := h
    rfl
  · obtain ⟨a, dx, l, n, xs, S, rfl, ha, hdx, hl, hs, g, k⟩ := h
    refine ⟨_, (pss_cons (ps_if (PW.pt (pw_or (pt_not (pt_val (pe_cal c_is_integer (hr.mono (by decide)) (by rfl) (pa_cons (pv 1) pa_nil)))) (pw_or1 (pt_not (pt_chain op_le op_le pe_int (pv 1) (pe_glob (by rfl) T.m_MOST_WARES T.r_MOST_WARES)))))) (pss_one ps_never) pss_nil)
        (pss_cons (ps_if (PW.pt (pw_or (pt_not (pt_val (pe_callB call_isiT (by rfl) T.z_isinstance (by decide +kernel) (pa_cons (pv 2) (pa_cons (pe_tup (pa_cons (pe_bltn (v := .ty "list") (by rfl) T.z_list (by decide +kernel) rfl) (pa_cons (pe_bltn (v := .ty "tuple") (by rfl) T.z_tuple (by decide +kernel) rfl) pa_nil))) pa_nil))))) (pw_or1 (pt_cmpR op_gt (pe_callB call_len_seq (by rfl) T.z_len (by decide +kernel) (pa_cons (pv 2) pa_nil)) (pe_glob (by rfl) T.m_MOST_STALLS T.r_MOST_STALLS) (nomark _))))) (pss_one ps_never) pss_nil)
        (pss_cons (ps_for PassesOwn.never rfl (pi_enum (by rfl) T.z_enumerate (pa_cons (pv 2) pa_nil)) (pg_tup (n := 2) rfl (pgs_cons (pg_name (i := 3) sc_Web_init.nd rfl (Or.inl rfl)) (pgs_cons (pg_name (i := 4) sc_Web_init.nd rfl (Or.inl rfl)) pgs_nil))) (pss_one (ps_if (pt_not (pt_val (pe_cal c_is_stall (hr.mono (by decide)) (by rfl) (pa_cons (pv 4) (pa_cons (pv 1) pa_nil))))) (pss_one ps_never) pss_nil)))
        (pss_cons (ps_fld (pv 0) (pv 1) rfl)
        (pss_one (ps_fld (pv 0) (pe_callTy call_tuple_of (by rfl) T.z_tuple (by decide +kernel) (pa_cons (pv 2) pa_nil)) rfl)))))), ?_⟩
    have g1 := g.n1
    have g8 := g.n8
    have hlen := hs.len
    have glen := g.len
    refine ⟨_, rfl, n, rfl, true, rfl, iteF ?_⟩
    refine ⟨_, rfl, _, _, rfl, rfl, true, by simp [g1], iteT ?_⟩
    refine ⟨_, _, rfl, rfl, true, by simp [g8], iteF ?_⟩
    refine ⟨_, rfl, by show 2 ≤ sizeLine; decide, fun q hq => ?_⟩
    refine ⟨_, q, _, _, _, true, rfl, upd_same, .cons (.ty "list") (.cons (.ty "tuple") .nil), TyX.base (.lst (same_upd hq _ _ hl)), kitAny_cons (kit_ty (b := "list") (r := true) (by decide +kernel)) (fun e => nomatch e) (fun _ => rfl), true, rfl, iteF ?_⟩
    refine ⟨_, rfl, l, xs, rfl, .inl (SqL.of (same_upd hq _ _ hl)), _, _, rfl, rfl, _, rfl, iteN (decide_eq_false (by omega)) ?_⟩
    refine ⟨_, rfl, l, xs, rfl, SqL.of (same_upd hq _ _ hl), ?_⟩
    refine for_it (walk_enum (xs := xs)) (fun i σ H' => Same H H' ∧ ∃ u v, σ = [some (.ref a), some (.int n), some (.ref l), u, v]) ⟨same_upd hq, _, _, rfl⟩ (fun i σ H' _ h => SqL.of (h.1 _ _ hl)) ?_ ?_
    · rintro i x σ H' H2 hi ⟨s1, u, v, rfl⟩ ⟨t, x1, x2, rfl, ht, rfl, e1, e2⟩
      cases e1
      obtain ⟨st, es, hst⟩ := hs.get e2
      have s2 := s1.trans (same_upd (o := .tup [.int (i : Nat), x2]) ht)
      have hm := List.mem_of_getElem? es
      refine ⟨t, _, rfl, SqT.of upd_same, rfl, _, _, rfl, _, _, rfl, rfl, ?_⟩
      refine ⟨_, rfl, _, rfl, _, n, st, rfl, hst.same s2, g.good st hm, g.bd st hm, fun H3 s3 => ⟨true, rfl, iteF ⟨s2.trans s3, _, _, rfl⟩⟩⟩
    · rintro σ H' ⟨s1, u, v, rfl⟩
      refine ⟨_, rfl, _, rfl, a, Cw, dx, _, rfl, s1 _ _ ha, T.clW, T.nWar, by decide, ?_⟩
      have hal := ne_of hl ha (fun z => nomatch z)
      have hl3 : SqL K (upd H' a (.ins Cw dx (putF "wares" (.int n) []))) l xs := SqL.of (by rw [upd_ne hal]; exact s1 _ _ hl)
      refine ⟨_, rfl, l, xs, rfl, .inl ⟨hl3, fun t ht => ⟨_, rfl, a, Cw, dx, putF "wares" (.int n) [], rfl, ?_, T.clW, T.nSta, by show 1 < 1000; decide, ?_⟩⟩⟩
      · rw [upd_ne (ne_of_none upd_same ht), upd_same]
      · refine k t _ (fun b o hb e => ?_) upd_same (SqT.of ?_)
        · rw [upd_ne hb, upd_ne (fun z => ?_), upd_ne hb]
          · exact s1 _ _ e
          · rw [← z, upd_ne hb, s1 _ _ e] at ht
            cases ht
        · rw [upd_ne (fun z => ?_), upd_same]
          rw [← z, upd_same] at ht
          cases ht
end
end K32
end

section
set_option Elab.async false
set_option linter.all false
set_option maxRecDepth 100000
set_option maxHeartbeats 4000000
/-! K32P: the rows of a web, what a stall holds, pieces. -/
namespace K32
open PySem PySem.Spec PyProof.Rows L2
section
variable {P : Program} {w : World} {K : PySem.W.Frag} {mg : Str → Option Value} {base : Heap} {C Cw : Addr}
/-- a new web -/
theorem mkW {H1 : Hp} {Q : VK} {n : Int} {l : Addr} {xs : List V} {S : List Stall} (hl : H1 l = some (.lst xs)) (hs : StAll K H1 xs S) (g : GoodW n S) (k : ∀ v H2, Same H1 H2 → WebA K Cw H2 v n S → Q v H2) :
    ∀ x dx, H1 x = none → H1 dx = none → dx ≠ x →
      spInitW K Cw (.ref x :: ([.int n, .ref l] ++ [])) (upd (upd H1 dx (.own x)) x (.ins Cw dx [])) (fun v H2 => v = .non ∧ Q (.ref x) H2) E0 := fun x dx nx ndx ne => by
  have s1 : Same H1 (upd (upd H1 dx (.own x)) x (.ins Cw dx [])) := fun c o e => by
    rw [upd_ne (ne_of_none e nx), upd_ne (ne_of_none e ndx)]
    exact e
  refine ⟨x, dx, l, n, xs, S, rfl, upd_same, by rw [upd_ne ne, upd_same], s1 _ _ hl, hs.same s1, g, fun t H' h1 h2 h3 => ⟨rfl, k _ _ (fun c o e => h1 c o (ne_of_none e nx) (s1 _ _ e)) ⟨x, dx, t, xs, rfl, h2, h3, ?_⟩⟩⟩
  exact hs.same fun c o e => h1 c o (ne_of_none e nx) (s1 _ _ e)

abbrev st_other_ware : Stmt := topS 21
theorem sc_other_ware : FnScope ["stall", "ware"] ["stall", "ware"] (defScope st_other_ware) := ⟨rfl, rfl, rfl, by decide +kernel, rfl, by decide +kernel, by decide +kernel⟩
def spOther (K : PySem.W.Frag) : Sp := fun vs H Q _ => ∃ (v : V) (s : Stall) (wr : Int), vs = [v, .int wr] ∧ StA K H v s ∧ Q (.int (s.oth wr)) H
theorem ok_other_ware (D : Def K mg "other_ware" st_other_ware ["stall", "ware"]) (T : Txt K mg C Cw) : Cal P w K mg base "other_ware" 1 ["stall", "ware"] (spOther K) := by
  refine D.ok sc_other_ware (fun vs H Q E h => ?_) (fun f cdv A outer s H vs Q E hr h => ?_)
  · obtain ⟨v, st, wr, rfl, _⟩ := h
    rfl
  · obtain ⟨v, st, wr, rfl, ⟨a, x, y, z, rfl, ha, fx, fy, fz⟩, k⟩ := h
    refine ⟨_, (pss_one (ps_ret (pe_ifExp (pt_cmpR op_eq (pe_ix ix_tup (pv 0) pe_int (fun _ _ => rfl)) (pv 1) (nomark _)) (pe_ix ix_tup (pv 0) pe_int (fun _ _ => rfl)) (pe_ix ix_tup (pv 0) pe_int (fun _ _ => rfl))))), ?_⟩
    unfold Stall.oth at k
    refine ⟨_, rfl, a, _, _, _, rfl, rfl, ha, atI_nat (j := 0) rfl, _, rfl, rfl, _, rfl, ite2 (fun c => ?_) (fun c => ?_)⟩
    · have e : st.one = wr := V.int.inj (of_decide_eq_true c)
      rw [if_pos e] at k
      exact ⟨_, rfl, a, _, _, _, rfl, rfl, ha, atI_nat (j := 1) rfl, k⟩
    · have e : ¬ st.one = wr := fun z => c (by rw [z]; exact decide_eq_true rfl)
      rw [if_neg e] at k
      exact ⟨_, rfl, a, _, _, _, rfl, rfl, ha, atI_nat (j := 0) rfl, k⟩

abbrev st_held_of : Stmt := topS 22
theorem sc_held_of : FnScope ["stall", "ware"] ["stall", "ware"] (defScope st_held_of) := ⟨rfl, rfl, rfl, by decide +kernel, rfl, by decide +kernel, by decide +kernel⟩
def spHeld (K : PySem.W.Frag) (C : Addr) : Sp := fun vs H Q _ => ∃ (v : V) (s : Stall) (wr : Int), vs = [v, .int wr] ∧ StA K H v s ∧ BdS s ∧ ∀ u H', Same H H' → ExA C H' u (s.hold wr) → Q u H'
theorem ok_held_of (D : Def K mg "held_of" st_held_of ["stall", "ware"]) (T : Txt K mg C Cw) (c_exact : Cal P w K mg base "exact" 4 ["pair"] (spExact K C)) : Cal P w K mg base "held_of" 5 ["stall", "ware"] (spHeld K C) := by
  refine D.ok sc_held_of (fun vs H Q E h => ?_) (fun f cdv A outer s H vs Q E hr h => ?_)
  · obtain ⟨v, st, wr, rfl, _⟩ := h
    rfl
  · obtain ⟨v, st, wr, rfl, ⟨a, x, y, z, rfl, ha, fx, fy, fz⟩, b, k⟩ := h
    refine ⟨_, (pss_one (ps_ret (pe_cal c_exact (hr.mono (by decide)) (by rfl) (pa_cons (pe_ifExp (pt_cmpR op_eq (pe_ix ix_tup (pv 0) pe_int (fun _ _ => rfl)) (pv 1) (nomark _)) (pe_ix ix_tup (pv 0) pe_int (fun _ _ => rfl)) (pe_ix ix_tup (pv 0) pe_int (fun _ _ => rfl))) pa_nil)))), ?_⟩
    unfold Stall.hold at k
    refine ⟨_, rfl, a, _, _, _, rfl, rfl, ha, atI_nat (j := 0) rfl, _, rfl, rfl, _, rfl, ite2 (fun c => ?_) (fun c => ?_)⟩
    · have e : st.one = wr := V.int.inj (of_decide_eq_true c)
      rw [if_pos e] at k
      exact ⟨_, rfl, a, _, _, _, rfl, rfl, ha, atI_nat (j := 2) rfl, x, st.here, 12, rfl, fx, b.h, by decide, k⟩
    · have e : ¬ st.one = wr := fun z => c (by rw [z]; exact decide_eq_true rfl)
      rw [if_neg e] at k
      exact ⟨_, rfl, a, _, _, _, rfl, rfl, ha, atI_nat (j := 3) rfl, y, st.beside, 12, rfl, fy, b.b, by decide, k⟩

abbrev st_root_exact : Stmt := topS 23
theorem sc_root_exact : FnScope ["stall"] ["stall"] (defScope st_root_exact) := ⟨rfl, rfl, rfl, by decide +kernel, rfl, by decide +kernel, by decide +kernel⟩
def spRoot (K : PySem.W.Frag) (C : Addr) : Sp := fun vs H Q _ => ∃ (v : V) (s : Stall), vs = [v] ∧ StA K H v s ∧ BdS s ∧ ∀ u H', Same H H' → ExA C H' u s.root → Q u H'
theorem ok_root_exact (D : Def K mg "root_exact" st_root_exact ["stall"]) (T : Txt K mg C Cw) (c_exact : Cal P w K mg base "exact" 4 ["pair"] (spExact K C)) : Cal P w K mg base "root_exact" 5 ["stall"] (spRoot K C) := by
  refine D.ok sc_root_exact (fun vs H Q E h => ?_) (fun f cdv A outer s H vs Q E hr h => ?_)
  · obtain ⟨v, st, rfl, _⟩ := h
    rfl
  · obtain ⟨v, st, rfl, ⟨a, x, y, z, rfl, ha, fx, fy, fz⟩, b, k⟩ := h
    refine ⟨_, (pss_one (ps_ret (pe_cal c_exact (hr.mono (by decide)) (by rfl) (pa_cons (pe_ix ix_tup (pv 0) pe_int (fun _ _ => rfl)) pa_nil)))), ?_⟩
    refine ⟨_, rfl, a, _, _, _, rfl, rfl, ha, atI_nat (j := 4) rfl, z, st.root, 12, rfl, fz, b.r, by decide, fun v1 H3 s5 e1 => ?_⟩
    exact k _ _ s5 e1
end
end K32
end

section
set_option Elab.async false
set_option linter.all false
set_option maxRecDepth 100000
set_option maxHeartbeats 4000000
/-! K32Q: the rows of a web. -/
namespace K32
open PySem PySem.Spec PyProof.Rows L2
section
variable {P : Program} {w : World} {K : PySem.W.Frag} {mg : Str → Option Value} {base : Heap} {C Cw : Addr}

abbrev st_roots_exact : Stmt := topS 20
theorem sc_roots_exact : FnScope ["web", "found", "one", "other", "amount", "second", "root", "here", "there", "ware"] ["web"] (defScope st_roots_exact) := ⟨rfl, rfl, rfl, by decide +kernel, rfl, by decide +kernel, by decide +kernel⟩
/-- rows: a list of dicts, none of them of H0; row i knows j when (i, j) was stored -/
def RowsA (C : Addr) (H0 H : Hp) (l : Addr) (n : Int) (L : List (Int × Int)) : Prop :=
  ∃ ds : List Addr, H l = some (.lst (ds.map V.ref)) ∧ (ds.length : Int) = n ∧ ds.Nodup ∧ (∀ d ∈ ds, H0 d = none) ∧ ∀ (i : Nat) d, ds[i]? = some d →
    ∃ kvs, H d = some (.dK kvs) ∧ kvs.length ≤ L.length ∧ (∀ k, (valV kvs k).isSome = true ↔ ∃ j, k = Sum.inl j ∧ ((i : Int), j) ∈ L) ∧ ∀ k v, valV kvs k = some v → ∃ q, ExA C H v q ∧ Bd (1 + 13 * L.length) q
theorem RowsA.same {C : Addr} {H0 H H' : Hp} {l : Addr} {n : Int} {L : List (Int × Int)} (h : RowsA C H0 H l n L) (e : Same H H') : RowsA C H0 H' l n L := by
  obtain ⟨ds, h1, h2, h3, h4, h5⟩ := h
  refine ⟨ds, e _ _ h1, h2, h3, h4, fun i d hd => ?_⟩
  obtain ⟨kvs, g1, g2, g3, g4⟩ := h5 i d hd
  exact ⟨kvs, e _ _ g1, g2, g3, fun k v q => by
    obtain ⟨p, g5, g6⟩ := g4 k v q
    exact ⟨p, g5.same e, g6⟩⟩
theorem mkE_c {C : Addr} {σ : L2.St} {H1 : Hp} {Q : VK} {t b : Int} (hb : b ≠ 0) (hn : b.natAbs < 2 ^ 9000) (k : ∀ v H2, Same H1 H2 → ExA C H2 v (Rat.divInt t b) → Q v H2) :
    tMake C (spInitE C) [] E0 (tCons (tC (.int t)) (tCons (tC (.int b)) tNil)) σ H1 Q := mkE hb hn k
theorem nodup_inj {α : Type} {l : List α} (h : l.Nodup) {i j : Nat} {hi : i < l.length} {hj : j < l.length} (e : l[i] = l[j]) : i = j := by
  have p := List.pairwise_iff_getElem.mp h
  rcases Nat.lt_trichotomy i j with c | c | c
  · exact absurd e (p i j hi hj c)
  · exact c
  · exact absurd e.symm (p j i hj hi c)
theorem take_snoc {α : Type} {l : List α} {i : Nat} {x : α} (h : l[i]? = some x) : l.take (i + 1) = l.take i ++ [x] := by
  rw [List.take_succ, h]
  rfl
theorem RowsA.put {C : Addr} {H0 H : Hp} {l : Addr} {n : Int} {L : List (Int × Int)} (h : RowsA C H0 H l n L) {i : Int} (j : Int) (i0 : 0 ≤ i) (i1 : i < n) :
    ∃ d xs kvs, H l = some (.lst xs) ∧ atI xs i = some (.ref d) ∧ H d = some (.dK kvs) ∧ kvs.length ≤ L.length ∧ H0 d = none ∧ (∀ v, valV kvs (.inl j) = some v → ∃ q, ExA C H v q ∧ Bd (1 + 13 * L.length) q) ∧
      ∀ H' u q, Same H H' → ExA C H' u q → Bd (1 + 13 * (L.length + 1)) q → RowsA C H0 (upd H' d (.dK (putK kvs (.inl j) u))) l n (L ++ [(i, j)]) := by
  obtain ⟨ds, h1, h2, h3, h4, h5⟩ := h
  obtain ⟨m, rfl⟩ := Int.eq_ofNat_of_zero_le i0
  have hm : m < ds.length := by omega
  obtain ⟨kvs, g1, g2, g3, g4⟩ := h5 m ds[m] (by simp [hm])
  refine ⟨ds[m], _, kvs, h1, atI_nat (j := m) (by simp [hm]), g1, g2, h4 _ (List.getElem_mem hm), fun v q => g4 _ v q, fun H' u q s1 e1 b1 => ?_⟩
  have g1' := s1 _ _ g1
  have keep : ∀ v q, ExA C H' v q → ExA C (upd H' ds[m] (.dK (putK kvs (.inl j) u))) v q := by
    rintro v q ⟨a, dx, rfl, ha⟩
    exact ⟨a, dx, rfl, by rw [upd_ne (ne_of ha g1' (fun z => nomatch z))]; exact ha⟩
  refine ⟨ds, by rw [upd_ne (ne_of (s1 _ _ h1) g1' (fun z => nomatch z))]; exact s1 _ _ h1, h2, h3, h4, fun i d hd => ?_⟩
  by_cases c : i = m
  · subst c
    have e : d = ds[i] := by
      rw [List.getElem?_eq_getElem hm] at hd
      exact (Option.some.inj hd).symm
    subst e
    refine ⟨_, upd_same, Nat.le_trans (length_putK _ _ _) (by simp; omega), fun k => ?_, fun k v hv => ?_⟩
    · rw [valV_put]
      by_cases ck : k = .inl j
      · subst ck
        simp
      · rw [if_neg ck, g3]
        constructor
        · rintro ⟨j', rfl, hj⟩
          exact ⟨j', rfl, List.mem_append_left _ hj⟩
        · rintro ⟨j', rfl, hj⟩
          refine ⟨j', rfl, ?_⟩
          rcases List.mem_append.mp hj with hj | hj
          · exact hj
          · simp only [List.mem_singleton, Prod.mk.injEq] at hj
            exact absurd (by rw [hj.2]) ck
    · rw [valV_put] at hv
      rw [List.length_append]
      split at hv
      · cases hv
        exact ⟨q, keep _ _ e1, b1⟩
      · obtain ⟨q2, k1, k2⟩ := g4 k v hv
        exact ⟨q2, keep _ _ (k1.same s1), k2.mono (by simp; omega)⟩
  · obtain ⟨kvs2, f1, f2, f3, f4⟩ := h5 i d hd
    have hi := (List.getElem?_eq_some_iff.mp hd)
    have ne : d ≠ ds[m] := by
      obtain ⟨hi, e⟩ := hi
      intro z
      rw [← e] at z
      exact c (nodup_inj h3 z)
    refine ⟨kvs2, by rw [upd_ne ne]; exact s1 _ _ f1, by simp; omega, fun k => ?_, fun k v hv => ?_⟩
    · rw [f3]
      constructor
      · rintro ⟨j', rfl, hj⟩
        exact ⟨j', rfl, List.mem_append_left _ hj⟩
      · rintro ⟨j', rfl, hj⟩
        refine ⟨j', rfl, ?_⟩
        rcases List.mem_append.mp hj with hj | hj
        · exact hj
        · simp only [List.mem_singleton, Prod.mk.injEq] at hj
          exact absurd (by omega) c
    · obtain ⟨q2, k1, k2⟩ := f4 k v hv
      exact ⟨q2, keep _ _ (k1.same s1), k2.mono (by simp; omega)⟩
def linksOf (S : List Stall) : List (Int × Int) := S.flatMap fun s => [(s.one, s.other), (s.other, s.one)]
theorem linksOf_snoc (S : List Stall) (s : Stall) : linksOf (S ++ [s]) = linksOf S ++ [(s.one, s.other)] ++ [(s.other, s.one)] := by
  simp [linksOf]
theorem linksOf_len (S : List Stall) : (linksOf S).length = 2 * S.length := by
  induction S with
  | nil => rfl
  | cons a S ih => simp [linksOf] at ih ⊢; omega
def spRows (K : PySem.W.Frag) (C Cw : Addr) : Sp := fun vs H Q _ => ∃ (v : V) (n : Int) (S : List Stall), vs = [v] ∧ WebA K Cw H v n S ∧ GoodW n S ∧ ∀ l H', Same H H' → RowsA C H H' l n (linksOf S) → Q (.ref l) H'
theorem ok_roots_exact (D : Def K mg "roots_exact" st_roots_exact ["web"]) (T : Txt K mg C Cw) (c_exact : Cal P w K mg base "exact" 4 ["pair"] (spExact K C)) (i_Exact : ICal P w K mg base "Exact" C 2 ["self", "top", "bottom"] (spInitE C))
    (m_add : MCal P w K mg base C "__add__" 4 ["self", "other"] (spAdd C)) : Cal P w K mg base "roots_exact" 5 ["web"] (spRows K C Cw) := by
  refine D.ok sc_roots_exact (fun vs H Q E h => ?_) (fun f cdv A outer s H vs Q E hr h => ?_)
  · obtain ⟨v, n, S, rfl, _⟩ := h
    rfl
  · obtain ⟨v, n, S, rfl, ⟨a, dx, t, xs, rfl, hw, ht, hs⟩, g, k⟩ := h
    refine ⟨_, (pss_cons (ps_setLc (i := 1) (own := [("ware", 9)]) (by rfl) sc_roots_exact.nd rfl rfl (sw_true rfl rfl rfl (by decide +kernel)) (pi_range1 (by rfl) T.z_range (pa_cons (pe_fld (pv 0) rfl) pa_nil)) (blkOk_by (own := [("ware", 9)]) (by kernel_rfl)) (fun _ _ _ _ _ => (pg_name (i := 9) sc_roots_exact.nd rfl (Or.inl rfl))) (fun _ _ _ _ _ => pts_nil) (fun _ _ _ _ _ => pe_dnewK))
        (pss_cons (ps_for PassesOwn.never rfl (pi_tup (pe_fld (pv 0) rfl)) (pg_tup (n := 5) rfl (pgs_cons (pg_name (i := 2) sc_roots_exact.nd rfl (Or.inl rfl)) (pgs_cons (pg_name (i := 3) sc_roots_exact.nd rfl (Or.inl rfl)) (pgs_cons (pg_name (i := 4) sc_roots_exact.nd rfl (Or.inl rfl)) (pgs_cons (pg_name (i := 5) sc_roots_exact.nd rfl (Or.inl rfl)) (pgs_cons (pg_name (i := 6) sc_roots_exact.nd rfl (Or.inl rfl)) pgs_nil)))))) (pss_one (ps_for PassesOwn.never rfl (pi_tup (pe_tup (pa_cons (pe_tup (pa_cons (pv 2) (pa_cons (pv 3) pa_nil))) (pa_cons (pe_tup (pa_cons (pv 3) (pa_cons (pv 2) pa_nil))) pa_nil)))) (pg_tup (n := 2) rfl (pgs_cons (pg_name (i := 7) sc_roots_exact.nd rfl (Or.inl rfl)) (pgs_cons (pg_name (i := 8) sc_roots_exact.nd rfl (Or.inl rfl)) pgs_nil))) (pss_one (ps_dput (hu_of hr) (pe_ix ix_list (pv 1) (pv 7) (fun _ _ => rfl)) (pv 8) (pe_op (op_ins (op := .Add) m_add (hr.mono (by decide)) T.sfE) (pe_dget2 (hu_of hr) (pe_ix ix_list (pv 1) (pv 7) (fun _ _ => rfl)) (pv 8) (pe_ical i_Exact (hr.mono (by decide)) (by rfl) (pa_cons pe_int (pa_cons pe_int pa_nil))) ⟨rfl, rfl, rfl, rfl⟩) (pe_cal c_exact (hr.mono (by decide)) (by rfl) (pa_cons (pv 6) pa_nil))) rfl)))))
        (pss_one (ps_ret (pv 1))))), ?_⟩
    have g1 := g.n1
    have g8 := g.n8
    have glen := g.len
    refine ⟨_, rfl, a, Cw, dx, _, _, rfl, hw, T.clW, T.nWar, webF_wares n t, n, rfl, by omega, by omega, fun D hD => ?_⟩
    refine lc_range (Pv := fun i H' => ∃ ds : List Addr, ds.length = i ∧ ds.Nodup ∧ (∀ d ∈ ds, H d = none ∧ d ≠ D ∧ H' d = some (.dK [])) ∧ H' D = some (.lst (ds.map V.ref)) ∧ Same H H') ⟨[], rfl, .nil, by simp, upd_same, same_upd hD⟩ ?_ ?_
    · rintro i H' hi ⟨ds, d1, d2, d3, d4, d5⟩
      refine ⟨rfl, yes_if fun p hp => ⟨_, by rw [upd_ne (ne_of_none d4 hp)]; exact d4, by rw [List.length_map, d1]; exact small1000 (by omega), ds ++ [p], by simp [d1], ?_, ?_, ?_, ?_⟩⟩
      · rw [List.nodup_append]
        refine ⟨d2, by simp, ?_⟩
        rintro x hx y hy rfl
        simp at hy
        subst hy
        rw [(d3 _ hx).2.2] at hp
        cases hp
      · intro d hd
        rcases List.mem_append.mp hd with hd | hd
        · obtain ⟨e1, e2, e3⟩ := d3 d hd
          exact ⟨e1, e2, by rw [upd_ne e2, upd_ne (ne_of_none e3 hp)]; exact e3⟩
        · simp at hd
          subst hd
          have ne : d ≠ D := fun z => by
            rw [z, d4] at hp
            cases hp
          exact ⟨d5.free hp, ne, by rw [upd_ne ne, upd_same]⟩
      · rw [upd_same, List.map_append]
        rfl
      · exact Same.mut (d5.trans (same_upd hp)) hD
    · rintro H1 ⟨ds, d1, d2, d3, d4, d5⟩
      have r0 : RowsA C H H1 D n [] := by
        refine ⟨ds, d4, by omega, d2, fun d hd => (d3 d hd).1, fun i d hd => ⟨[], (d3 d (List.mem_of_getElem? hd)).2.2, by simp, fun k => by simp [valV_nil], fun k v hv => by simp [valV_nil] at hv⟩⟩
      refine ⟨_, rfl, a, Cw, dx, _, _, rfl, d5 _ _ hw, T.clW, T.nSta, webF_stalls n t, t, rfl, ⟨_, ht.ext d5⟩, ?_⟩
      refine for_tup (K := K) (xs := xs) (fun i σ H' => Same H H' ∧ RowsA C H H' D n (linksOf (S.take i)) ∧ ∃ u1 u2 u3 u4 u5 u6 u7, σ = [some (.ref a), some (.ref D), u1, u2, u3, u4, u5, u6, u7, none]) ⟨d5, r0, _, _, _, _, _, _, _, rfl⟩ (fun i σ H' _ h => ht.ext h.1) ?_ ?_
      · rintro i x σ H2 hx ⟨s2, r2, u1, u2, u3, u4, u5, u6, u7, rfl⟩
        obtain ⟨st, es, hst⟩ := hs.get hx
        have hm := List.mem_of_getElem? es
        have gs := g.good st hm
        have bs := g.bd st hm
        obtain ⟨b, x1, x2, x3, rfl, hb0, f1, f2, f3⟩ := hst
        have hb := hb0.ext s2
        refine ⟨b, _, rfl, hb, rfl, _, _, rfl, _, _, rfl, _, _, rfl, _, _, rfl, _, _, rfl, rfl, ?_⟩
        refine ⟨_, rfl, _, rfl, by show 2 ≤ sizeLine; decide, fun p1 hp1 => ?_⟩
        refine ⟨_, rfl, _, rfl, by show 2 ≤ sizeLine; decide, fun p2 hp2 => ?_⟩
        refine ⟨by show 2 ≤ sizeLine; decide, fun p3 hp3 => ⟨p3, rfl, ⟨_, SqT.of upd_same⟩, ?_⟩⟩
        have t2 : Same H2 _ := ((same_upd (o := .tup [.int st.one, .int st.other]) hp1).trans (same_upd (o := .tup [.int st.other, .int st.one]) hp2)).trans (same_upd (o := .tup [.ref p1, .ref p2]) hp3)
        refine for_tup (K := K) (xs := [.ref p1, .ref p2]) (fun m σ H' => Same H H' ∧ RowsA C H H' D n (linksOf (S.take i) ++ [(st.one, st.other), (st.other, st.one)].take m) ∧ H' p1 = some (.tup [.int st.one, .int st.other]) ∧ H' p2 = some (.tup [.int st.other, .int st.one]) ∧ H' p3 = some (.tup [.ref p1, .ref p2]) ∧
          ∃ u6 u7, σ = [some (.ref a), some (.ref D), some (.int st.one), some (.int st.other), some x1, some x2, some x3, u6, u7, none]) ?_ (fun i σ H' _ h => SqT.of h.2.2.2.2.1) ?_ ?_
        · refine ⟨s2.trans t2, ?_, ?_, ?_, upd_same, _, _, rfl⟩
          · rw [List.take_zero, List.append_nil]
            exact r2.same t2
          · exact (same_upd hp3) _ _ ((same_upd hp2) _ _ upd_same)
          · exact (same_upd hp3) _ _ upd_same
        · rintro m x σ H3 hx ⟨s3, r3, o1, o2, o3, u6, u7, rfl⟩
          have sel : ∃ (p : Addr) (h j : Int), x = .ref p ∧ H3 p = some (.tup [.int h, .int j]) ∧ 0 ≤ h ∧ h < n ∧ [(st.one, st.other), (st.other, st.one)].take (m + 1) = [(st.one, st.other), (st.other, st.one)].take m ++ [(h, j)] := by
            match m, hx with
            | 0, hx => exact ⟨p1, _, _, (Option.some.inj hx).symm, o1, gs.a0, gs.a1, rfl⟩
            | 1, hx => exact ⟨p2, _, _, (Option.some.inj hx).symm, o2, gs.b0, gs.b1, rfl⟩
            | m + 2, hx => simp at hx
          obtain ⟨p, h, j, rfl, op, h0, h1, eL⟩ := sel
          refine ⟨p, _, rfl, SqT.of op, rfl, _, _, rfl, _, _, rfl, rfl, ?_⟩
          obtain ⟨d, ys, kvs, q1, q2, q3, q4, q5, q6, q7⟩ := r3.put (i := h) j h0 h1
          have hL : (linksOf (S.take i) ++ [(st.one, st.other), (st.other, st.one)].take m).length ≤ 18 := by
            rw [List.length_append, linksOf_len, List.length_take, List.length_take]
            simp
            omega
          generalize hLL : linksOf (S.take i) ++ [(st.one, st.other), (st.other, st.one)].take m = L at *
          refine ⟨_, rfl, _, rfl, D, ys, h, .ref d, rfl, rfl, SqL.of q1, q2, d, rfl, .inl ⟨kvs, .inl q3⟩, _, rfl, ?_⟩
          refine mkE_c (by decide) (lt9000 (m := 1) (by decide) (by decide)) fun v1 H4 s4 e1 => ?_
          refine ⟨valV kvs (.inl j), DGet.k (k := .inl j) (s4 _ _ q3), ?_⟩
          have hq : ∃ q, ExA C H4 ((valV kvs (.inl j)).getD v1) q ∧ Bd (1 + 13 * L.length) q := by
            cases hv : valV kvs (.inl j) with
            | none => exact ⟨_, e1, by rw [show Rat.divInt 0 1 = 0 from by decide +kernel]; exact Bd.mono (n := 1) ⟨by decide, by decide⟩ (by omega)⟩
            | some v =>
              obtain ⟨q, k1, k2⟩ := q6 v hv
              exact ⟨q, k1.same s4, k2⟩
          obtain ⟨q, e2, b2⟩ := hq
          refine ⟨_, rfl, x3, st.root, 12, rfl, f3.same (s3.trans s4), bs.r, by decide, fun v2 H5 s5 e3 => ?_⟩
          obtain ⟨a1, dx1, ev, k1⟩ := e2.same s5
          obtain ⟨a2, dx2, rfl, k2⟩ := e3
          refine ⟨a1, a2, dx1, dx2, _, _, ev, rfl, k1, k2, _, _, q, st.root, 1 + 13 * L.length, 12, rfl, ⟨_, _, ev, k1⟩, ⟨_, _, rfl, k2⟩, b2, bs.r, by omega, by decide, by omega, fun v5 H6 s6 e5 => ?_⟩
          have s46 := (s4.trans s5).trans s6
          refine ⟨_, rfl, _, rfl, D, ys, h, .ref d, rfl, rfl, SqL.of (s46 _ _ q1), q2, _, rfl, d, _, rfl, DPut.k (k := .inl j) (s46 _ _ q3) (small1000 (by omega)), ?_⟩
          have r4 := q7 H6 v5 _ s46 e5 (by rw [show 1 + 13 * (L.length + 1) = 1 + 13 * L.length + 12 + 1 by omega]; exact b2.add bs.r)
          have nd : ∀ b xs, H3 b = some (.tup xs) → upd H6 d (.dK (putK kvs (.inl j) v5)) b = some (.tup xs) := fun b xs e => by
            rw [upd_ne (ne_of e q3 (fun z => nomatch z))]
            exact s46 _ _ e
          refine ⟨Same.mut (s3.trans s46) q5, ?_, nd _ _ o1, nd _ _ o2, nd _ _ o3, _, _, rfl⟩
          rw [eL, ← List.append_assoc, hLL]
          exact r4
        · rintro σ H3 ⟨s3, r3, o1, o2, o3, u6, u7, rfl⟩
          refine ⟨s3, ?_, _, _, _, _, _, _, _, rfl⟩
          rw [take_snoc es, linksOf_snoc]
          rw [List.append_assoc]
          exact r3
      · rintro σ H2 ⟨s2, r2, u1, u2, u3, u4, u5, u6, u7, rfl⟩
        rw [hs.len, List.take_of_length_le (Nat.le_refl _)] at r2
        exact ⟨_, rfl, k _ _ s2 r2⟩
end
end K32
end

section
set_option Elab.async false
set_option linter.all false
set_option maxRecDepth 100000
set_option maxHeartbeats 4000000
/-! K32X: the pieces of a web. -/
namespace K32
open PySem PySem.Spec PyProof.Rows L2
/-! ### dicts keyed by wares -/
theorem valV_keys {kvs : List (Key × V)} {fs : List Int} (h : kvs.map (·.1) = fs.map Sum.inl) (j : Int) : (valV kvs (.inl j)).isSome = decide (j ∈ fs) := by
  rw [← valV_any, Bool.eq_iff_iff]
  simp only [List.any_eq_true, decide_eq_true_eq]
  constructor
  · rintro ⟨p, hp, e⟩
    have : p.1 ∈ kvs.map (·.1) := List.mem_map_of_mem hp
    rw [h, e] at this
    obtain ⟨x, hx, ex⟩ := List.mem_map.mp this
    cases ex
    exact hx
  · intro hj
    have : (Sum.inl j : Key) ∈ fs.map Sum.inl := List.mem_map_of_mem hj
    rw [← h] at this
    obtain ⟨p, hp, e⟩ := List.mem_map.mp this
    exact ⟨p, hp, e⟩
theorem valV_none {kvs : List (Key × V)} {fs : List Int} (h : kvs.map (·.1) = fs.map Sum.inl) {j : Int} (k : j ∉ fs) : valV kvs (.inl j) = none := by
  have e := valV_keys h j
  rw [decide_eq_false k] at e
  exact Option.not_isSome_iff_eq_none.mp (by rw [e]; decide)
theorem keys_put {kvs : List (Key × V)} {fs : List Int} (h : kvs.map (·.1) = fs.map Sum.inl) {j : Int} (k : j ∉ fs) (v : V) : (putK kvs (.inl j) v).map (·.1) = (fs ++ [j]).map Sum.inl := by
  rw [putK_new v (valV_none h k), List.map_append, List.map_append, h]
  rfl
theorem nodup_snoc {fs : List Int} (h : fs.Nodup) {j : Int} (k : j ∉ fs) : (fs ++ [j]).Nodup := by
  rw [List.nodup_append]
  refine ⟨h, by simp, ?_⟩
  rintro x hx y hy rfl
  simp at hy
  subst hy
  exact k hx
theorem nodup_len {l : List Int} {n : Int} (h : l.Nodup) (b : ∀ x ∈ l, 0 ≤ x ∧ x < n) : l.length ≤ n.toNat := by
  have e : (l.map Int.toNat).Nodup := by
    rw [List.Nodup, List.pairwise_map]
    refine h.imp_of_mem fun {a c} ha hc ne z => ne ?_
    have := b a ha
    have := b c hc
    omega
  have := e.length_le_of_subset (l₂ := List.range n.toNat) fun x hx => by
    obtain ⟨y, hy, rfl⟩ := List.mem_map.mp hx
    have := b y hy
    rw [List.mem_range]
    omega
  simpa using this
theorem keys_len {kvs : List (Key × V)} {fs : List Int} (h : kvs.map (·.1) = fs.map Sum.inl) : kvs.length = fs.length := by
  have := congrArg List.length h
  simpa using this
theorem mem_links {S : List Stall} {x y : Int} : (x, y) ∈ linksOf S ↔ ∃ st ∈ S, (st.one = x ∧ st.other = y) ∨ (st.other = x ∧ st.one = y) := by
  unfold linksOf
  simp only [List.mem_flatMap, List.mem_cons, List.not_mem_nil, or_false, Prod.mk.injEq]
  constructor
  · rintro ⟨st, m, ⟨rfl, rfl⟩ | ⟨rfl, rfl⟩⟩
    · exact ⟨st, m, .inl ⟨rfl, rfl⟩⟩
    · exact ⟨st, m, .inr ⟨rfl, rfl⟩⟩
  · rintro ⟨st, m, ⟨rfl, rfl⟩ | ⟨rfl, rfl⟩⟩
    · exact ⟨st, m, .inl ⟨rfl, rfl⟩⟩
    · exact ⟨st, m, .inr ⟨rfl, rfl⟩⟩
theorem con_link {S : List Stall} {r x y : Int} (h : Con S r x) (l : (x, y) ∈ linksOf S) : Con S r y := by
  obtain ⟨st, m, ⟨rfl, rfl⟩ | ⟨rfl, rfl⟩⟩ := mem_links.mp l
  · exact (cl_con S r st m).mp h
  · exact (cl_con S r st m).mpr h
/-- what is closed holds the whole piece -/
theorem con_closed {S : List Stall} {r : Int} {fs : List Int} (h0 : r ∈ fs) (hc : ∀ x ∈ fs, ∀ y, (x, y) ∈ linksOf S → y ∈ fs) {x : Int} (h : Con S r x) : x ∈ fs :=
  h (fun y => y ∈ fs) (fun st m => ⟨fun a => hc _ a _ (mem_links.mpr ⟨st, m, .inl ⟨rfl, rfl⟩⟩), fun a => hc _ a _ (mem_links.mpr ⟨st, m, .inr ⟨rfl, rfl⟩⟩)⟩) h0
theorem link_in {n : Int} {S : List Stall} (g : Good n S) {x y : Int} (l : (x, y) ∈ linksOf S) : 0 ≤ y ∧ y < n := by
  obtain ⟨st, m, ⟨rfl, rfl⟩ | ⟨rfl, rfl⟩⟩ := mem_links.mp l
  · exact ⟨(g st m).b0, (g st m).b1⟩
  · exact ⟨(g st m).a0, (g st m).a1⟩
/-- the test of a stack: is it not [] -/
theorem eqvAll_nil (ds : List PyData) : PyData.eqvAll ds [] = ds.isEmpty := by
  cases ds <;> simp [PyData.eqvAll]
theorem wait_test {K : PySem.W.Frag} {σ : L2.St} {H : Hp} {i : Nat} {p : Addr} {xs : List V} {ds : List PyData} {Q : Bool → Hp → Prop} (hv : σ[i]? = some (some (.ref p))) (hl : H p = some (.lst xs)) (hd : DpAll K H xs ds)
    (pl : PyData.plainAll ds = true) (dp : PyData.depthAll ds ≤ 50) (k : ∀ H', Same H H' → Q (!ds.isEmpty) H') : tTest (tOp (rNeP K) (tVar i) (tLst tNil)) σ H Q := by
  refine ⟨_, hv, by show 0 ≤ sizeLine; exact Nat.zero_le _, fun e he => ?_⟩
  have s3 := same_upd (o := .lst []) he
  refine ⟨.list ds, .list [], .lst (.inl (.inl (s3 _ _ hl))) (dpAll_same s3 hd), .lst (.inl (.inl upd_same)) .nil, by simp [PyData.plain, pl], by simp [PyData.plain, PyData.plainAll], by simp [PyData.depth]; omega, _, rfl, ?_⟩
  rw [show PyData.eqv (.list ds) (.list []) = ds.isEmpty from by rw [PyData.eqv]; exact eqvAll_nil ds]
  exact k _ s3
/-- one row -/
theorem RowsA.row {C : Addr} {H0 H : Hp} {l : Addr} {n : Int} {L : List (Int × Int)} (h : RowsA C H0 H l n L) {x : Int} (x0 : 0 ≤ x) (x1 : x < n) :
    ∃ d xs rk, H l = some (.lst xs) ∧ atI xs x = some (.ref d) ∧ H d = some (.dK rk) ∧ H0 d = none ∧ (∀ (m : Nat) k v, rk[m]? = some (k, v) → ∃ j, k = Sum.inl j ∧ (x, j) ∈ L) ∧ ∀ j, (x, j) ∈ L → ∃ (m : Nat) (v : V), rk[m]? = some (Sum.inl j, v) := by
  obtain ⟨ds, h1, h2, h3, h4, h5⟩ := h
  obtain ⟨m, rfl⟩ := Int.eq_ofNat_of_zero_le x0
  have hm : m < ds.length := by omega
  obtain ⟨kvs, g1, g2, g3, g4⟩ := h5 m ds[m] (by simp [hm])
  refine ⟨ds[m], _, kvs, h1, atI_nat (j := m) (by simp [hm]), g1, h4 _ (List.getElem_mem hm), fun q k v e => ?_, fun j hj => ?_⟩
  · refine (g3 k).mp ?_
    rw [← valV_any, List.any_eq_true]
    exact ⟨_, List.mem_of_getElem? e, by simp⟩
  · have := (g3 (.inl j)).mpr ⟨j, rfl, hj⟩
    rw [← valV_any, List.any_eq_true] at this
    obtain ⟨⟨k, v⟩, hp, e⟩ := this
    simp at e
    subst e
    obtain ⟨q, hq⟩ := List.getElem?_of_mem hp
    exact ⟨q, v, hq⟩
section
variable {P : Program} {w : World} {K : PySem.W.Frag} {mg : Str → Option Value} {base : Heap} {C Cw : Addr}

abbrev st_piece_of : Stmt := topS 24
theorem sc_piece_of : FnScope ["web", "ware", "rows", "found", "waiting", "there"] ["web", "ware"] (defScope st_piece_of) := ⟨rfl, rfl, rfl, by decide +kernel, rfl, by decide +kernel, by decide +kernel⟩
def spPiece (K : PySem.W.Frag) (Cw : Addr) : Sp := fun vs H Q _ => ∃ (v : V) (n : Int) (S : List Stall) (wr : Int), vs = [v, .int wr] ∧ WebA K Cw H v n S ∧ GoodW n S ∧ 0 ≤ wr ∧ wr < n ∧
  ∀ (xs : List Int) t H', Same H H' → H' t = some (.tup (xs.map V.int)) → xs.Nodup → (∀ x, x ∈ xs ↔ Con S wr x) → Q (.ref t) H'
theorem ok_piece_of (D : Def K mg "piece_of" st_piece_of ["web", "ware"]) (T : Txt K mg C Cw) (c_roots_exact : Cal P w K mg base "roots_exact" 5 ["web"] (spRows K C Cw)) : Cal P w K mg base "piece_of" 6 ["web", "ware"] (spPiece K Cw) := by
  refine D.ok sc_piece_of (fun vs H Q E h => ?_) (fun f cdv A outer s H vs Q E hr h => ?_)
  · obtain ⟨v, n, S, wr, rfl, _⟩ := h
    rfl
  · obtain ⟨v, n, S, wr, rfl, hw, g, w0, w1, k⟩ := h
    refine ⟨_, (pss_cons (ps_set (i := 2) sc_piece_of.nd rfl (Or.inl rfl) (pe_cal c_roots_exact (hr.mono (by decide)) (by rfl) (pa_cons (pv 0) pa_nil)))
        (pss_cons (ps_set (i := 3) sc_piece_of.nd rfl (Or.inl rfl) (pe_disp (pps_cons (pv 1) pe_bl pps_nil) rfl rfl (by decide) (by decide)))
        (pss_cons (ps_set (i := 4) sc_piece_of.nd rfl (Or.inl rfl) (pe_lst (pa_cons (pv 1) pa_nil)))
        (pss_cons (ps_while PassesOwn.never (pt_cmpR (op_neP (u62 hr)) (pv 4) (pe_lst pa_nil) (nomark _)) (pss_one (ps_lock (ps_for PassesOwn.never rfl (pi_keys (pe_ix ix_list (pv 2) (pe_bm0 PySem.F.plainAttrs_list PySem.F.slot_list_pop PySem.F.type_list_pop mt_pop (pv 4)) (fun _ _ => rfl))) (pg_name (i := 5) sc_piece_of.nd rfl (Or.inl rfl)) (pss_one (ps_if (pt_cmp (pc_dnotin (hu_of hr) (pv 5) (pv 3))) (pss_cons (ps_dput (hu_of hr) (pv 3) (pv 5) pe_bl rfl)
        (pss_one (ps_expr (pe_bm PySem.F.plainAttrs_list PySem.F.slot_list_append PySem.F.type_list_append mt_append (pv 4) (pa_cons (pv 5) pa_nil))))) pss_nil))))))
        (pss_one (ps_ret (pe_callTy call_tuple_of (by rfl) T.z_tuple (by decide +kernel) (pa_cons (pe_callB (call_sortedDI rfl) (by rfl) T.z_sorted (by decide +kernel) (pa_cons (pv 3) pa_nil)) pa_nil)))))))), ?_⟩
    have g1 := g.n1
    have g8 := g.n8
    have glen := g.len
    refine ⟨_, rfl, v, n, S, rfl, hw, g, fun l H1 s1 r1 => ?_⟩
    refine fun F hF => ⟨_, rfl, upd_same, [(.inl wr, .bl true)], rfl, (by show 1 ≤ 15; decide), ?_⟩
    rw [upd_upd]
    refine ⟨_, rfl, by show 1 ≤ sizeLine; decide, fun Wt hWt => ?_⟩
    have hF1 : H1 F = none := hF
    have hWF : Wt ≠ F := fun z => by
      rw [z, upd_same] at hWt
      cases hWt
    have hW1 : H1 Wt = none := by
      rw [upd_ne hWF] at hWt
      exact hWt
    refine ⟨fun m σ H' => ∃ (fs ws : List Int) (kvs : List (Key × V)) (u : Option V), Same H1 H' ∧ H' F = some (.dK kvs) ∧ kvs.map (·.1) = fs.map Sum.inl ∧ H' Wt = some (.lst (ws.map V.int)) ∧
      σ = [some v, some (.int wr), some (.ref l), some (.ref F), some (.ref Wt), u] ∧ fs.Nodup ∧ (∀ x ∈ fs, 0 ≤ x ∧ x < n ∧ Con S wr x) ∧ wr ∈ fs ∧ (∀ x ∈ ws, x ∈ fs) ∧
      (∀ x ∈ fs, x ∉ ws → ∀ y, (x, y) ∈ linksOf S → y ∈ fs) ∧ m = 2 * (8 - fs.length) + ws.length ∧ 2 * (8 - fs.length) + ws.length ≤ 15, ⟨_, [wr], [wr], [(.inl wr, .bl true)], none, ?_, ?_, rfl, upd_same, rfl, by simp, ?_, by simp, by simp, by simp, rfl, by simp⟩, ?_⟩
    · exact Same.mut (same_upd hF1) hW1
    · rw [upd_ne (Ne.symm hWF), upd_same]
      rfl
    · intro x hx
      simp at hx
      subst hx
      exact ⟨w0, w1, Con.refl _ _⟩
    · rintro m σ H2 ⟨fs, ws, kvs, u, s2, hF2, ek, hW2, rfl, hnd, hin, h0, hsub, hcl, rfl, h15⟩
      have hfl := nodup_len hnd fun x hx => ⟨(hin x hx).1, (hin x hx).2.1⟩
      refine wait_test rfl hW2 (dpAll_ints ws) (plain_ints ws) (by rw [depth_ints']; decide) fun H3 s3 => ?_
      rcases List.eq_nil_or_concat ws with rfl | ⟨ws', x, rfl⟩
      · refine iteF ?_
        have hlt : fs.length < 64 := by omega
        refine ⟨_, rfl, F, kvs, fs, rfl, .inl (s3 _ _ hF2), ek, hlt, fun ys p hperm hord hp => ?_⟩
        refine ⟨p, _, rfl, .inl ⟨SqL.of upd_same, fun t ht => ?_⟩⟩
        have s4 := ((s1.trans s2).trans s3).trans (same_upd (o := .lst (ys.map V.int)) hp)
        refine k ys t _ (s4.trans (same_upd ht)) upd_same (hperm.nodup_iff.mpr hnd) fun z => ?_
        rw [hperm.mem_iff]
        exact ⟨fun hz => (hin z hz).2.2, fun hz => con_closed h0 (fun y hy => hcl y hy (by simp)) hz⟩
      · have hne : (!((ws'.concat x).map PyData.int).isEmpty) = true := by simp
        refine iteY hne ⟨fun σ' H' => ∃ m', m' < _ ∧ _, fun σ' H' z => z, ?_⟩
        rw [List.concat_eq_append] at hW2 hsub hcl ⊢
        have hxf : x ∈ fs := hsub x (by simp)
        obtain ⟨d, xs, rk, q1, q2, q3, q4, q5, q6⟩ := r1.row (hin x hxf).1 (hin x hxf).2.1
        have hdF : d ≠ F := ne_of_none q3 hF1
        have hdW : d ≠ Wt := ne_of_none q3 hW1
        have s13 := s2.trans s3
        refine ⟨d, _, s13 _ _ q3, True.intro, fun od => ?_⟩
        have ld : l ≠ d := ne_of q1 q3 (fun z => nomatch z)
        have e1 : (upd H3 d (.frz od (.dK rk))) Wt = some (.lst ((ws' ++ [x]).map V.int)) := by
          rw [upd_ne (Ne.symm hdW)]
          exact s3 _ _ hW2
        refine ⟨_, rfl, _, rfl, .inl ⟨rfl, _, SqL.of e1⟩, Wt, _, .int x, rfl, rfl, e1, by simp, ?_⟩
        have e2 : (upd (upd H3 d (.frz od (.dK rk))) Wt (.lst ((ws' ++ [x]).map V.int).dropLast)) d = some (.frz od (.dK rk)) := by
          rw [upd_ne hdW, upd_same]
        refine ⟨l, xs, x, .ref d, rfl, rfl, SqL.of ?_, q2, d, od, rfl, .inl ⟨rk, e2, ?_⟩⟩
        · rw [upd_ne (ne_of_none q1 hW1), upd_ne ld]
          exact s13 _ _ q1
        refine for_it (walk_keys (kvs := rk)) (fun i σ H' => ∃ (fs2 ws2 : List Int) (kvs2 : List (Key × V)) (u2 : Option V), (∀ b o, b ≠ d → H1 b = some o → H' b = some o) ∧ H' d = some (.frz od (.dK rk)) ∧ H' F = some (.dK kvs2) ∧ kvs2.map (·.1) = fs2.map Sum.inl ∧
          H' Wt = some (.lst (ws2.map V.int)) ∧ σ = [some v, some (.int wr), some (.ref l), some (.ref F), some (.ref Wt), u2] ∧ fs2.Nodup ∧ (∀ x ∈ fs2, 0 ≤ x ∧ x < n ∧ Con S wr x) ∧ wr ∈ fs2 ∧ (∀ x ∈ ws2, x ∈ fs2) ∧
          (∀ y ∈ fs2, y ∉ ws2 → y ≠ x → ∀ z, (y, z) ∈ linksOf S → z ∈ fs2) ∧ (∀ (q : Nat) j v, q < i → rk[q]? = some (Sum.inl j, v) → j ∈ fs2) ∧ x ∈ fs2 ∧ 2 * (8 - fs2.length) + ws2.length + 1 ≤ 2 * (8 - fs.length) + (ws' ++ [x]).length) ?_ (fun i σ H' _ h => ?_) ?_ ?_
        · refine ⟨fs, ws', kvs, u, fun b o hb e => ?_, e2, ?_, ek, ?_, rfl, hnd, hin, h0, fun y hy => hsub y (by simp [hy]), fun y hy hyw hyx => hcl y hy (by simp [hyw, hyx]), fun q j v hq => absurd hq (Nat.not_lt_zero _), hxf, by simp; omega⟩
          · rw [upd_ne (ne_of_none e hW1), upd_ne hb]
            exact s13 _ _ e
          · rw [upd_ne (Ne.symm hWF), upd_ne (Ne.symm hdF)]
            exact s3 _ _ hF2
          · rw [upd_same]
            simp
        · obtain ⟨_, _, _, _, _, h, _⟩ := h
          exact h
        · rintro i y σ H4 H5 hi ⟨fs2, ws2, kvs2, u2, t1, t2, t3, t4, t5, rfl, t6, t7, t8, t9, t10, t11, t12, t13⟩ ⟨rfl, kk, vv, hk, rfl⟩
          obtain ⟨j, rfl, hj⟩ := q5 i kk vv hk
          have jn := link_in g.good hj
          refine ⟨_, rfl, _, rfl, F, _, rfl, DGet.k (k := .inl j) t3, _, rfl, ?_⟩
          rw [valV_keys t4 j]
          by_cases hjf : j ∈ fs2
          · refine iteN (by simp [hjf]) ⟨fs2, ws2, kvs2, _, t1, t2, t3, t4, t5, rfl, t6, t7, t8, t9, t10, fun q j' v' hq e => ?_, t12, t13⟩
            rcases Nat.lt_succ_iff_lt_or_eq.mp hq with h | rfl
            · exact t11 q j' v' h e
            · rw [hk] at e
              cases e
              exact hjf
          · have hfl2 := nodup_len (nodup_snoc t6 hjf) (n := n) fun z hz => by
              rcases List.mem_append.mp hz with hz | hz
              · exact ⟨(t7 z hz).1, (t7 z hz).2.1⟩
              · simp at hz
                subst hz
                exact jn
            rw [List.length_append] at hfl2
            have hk2 := keys_len t4
            simp only [List.length_cons, List.length_nil] at hfl2
            refine iteY (by simp [hjf]) ⟨_, rfl, _, rfl, F, _, rfl, DPut.k (k := .inl j) t3 (small1000 (by omega)), ?_⟩
            have e5 : (upd H5 F (.dK (putK kvs2 (.inl j) (.bl true)))) Wt = some (.lst (ws2.map V.int)) := by
              rw [upd_ne hWF]
              exact t5
            refine ⟨_, rfl, .inl ⟨rfl, _, SqL.of e5⟩, _, rfl, Wt, _, _, rfl, rfl, e5, ?_, ?_⟩
            · rw [List.length_map]
              exact small1000 (by rw [List.concat_eq_append] at h15; omega)
            refine ⟨fs2 ++ [j], ws2 ++ [j], _, _, fun b o hb e => ?_, ?_, ?_, keys_put t4 hjf (.bl true), ?_, rfl, nodup_snoc t6 hjf, fun z hz => ?_, by simp [t8], fun z hz => ?_, fun y hy hyw hyx z hz => ?_, fun q j' v' hq e => ?_, by simp [t12], by
              have o1 : (fs2 ++ [j]).length = fs2.length + 1 := by simp
              have o2 : (ws2 ++ [j]).length = ws2.length + 1 := by simp
              omega⟩
            · rw [upd_ne (ne_of_none e hW1), upd_ne (ne_of_none e hF1)]
              exact t1 b o hb e
            · rw [upd_ne hdW, upd_ne hdF]
              exact t2
            · rw [upd_ne (Ne.symm hWF), upd_same]
            · rw [upd_same, List.map_append]
              rfl
            · rcases List.mem_append.mp hz with hz | hz
              · exact t7 z hz
              · simp at hz
                subst hz
                exact ⟨jn.1, jn.2, con_link (hin x hxf).2.2 hj⟩
            · rcases List.mem_append.mp hz with hz | hz
              · exact List.mem_append_left _ (t9 z hz)
              · exact List.mem_append_right _ hz
            · rcases List.mem_append.mp hy with hy | hy
              · exact List.mem_append_left _ (t10 y hy (fun c => hyw (List.mem_append_left _ c)) hyx z hz)
              · exact absurd (List.mem_append_right _ hy) hyw
            · rcases Nat.lt_succ_iff_lt_or_eq.mp hq with h | rfl
              · exact List.mem_append_left _ (t11 q j' v' h e)
              · rw [hk] at e
                cases e
                simp
        · rintro σ H4 ⟨fs2, ws2, kvs2, u2, t1, t2, t3, t4, t5, rfl, t6, t7, t8, t9, t10, t11, t12, t13⟩
          refine ⟨t2, 2 * (8 - fs2.length) + ws2.length, by omega, fs2, ws2, kvs2, u2, fun b o e => ?_, ?_, t4, ?_, rfl, t6, t7, t8, t9, fun y hy hyw z hz => ?_, rfl, by rw [List.concat_eq_append] at h15; omega⟩
          · by_cases hb : b = d
            · subst hb
              rw [upd_same, ← e, q3]
            · rw [upd_ne hb]
              exact t1 b o hb e
          · rw [upd_ne (Ne.symm hdF)]
            exact t3
          · rw [upd_ne (Ne.symm hdW)]
            exact t5
          · by_cases hyx : y = x
            · subst hyx
              obtain ⟨q, v', e⟩ := q6 z hz
              exact t11 q z v' (List.getElem?_eq_some_iff.mp e).1 e
            · exact t10 y hy hyw hyx z hz
end
end K32
end

section
set_option Elab.async false
set_option linter.all false
set_option maxRecDepth 100000
set_option maxHeartbeats 4000000
/-! K32Y: the pieces of a web. -/
namespace K32
open PySem PySem.Spec PyProof.Rows L2
section
variable {P : Program} {w : World} {K : PySem.W.Frag} {mg : Str → Option Value} {base : Heap} {C Cw : Addr}
theorem inV_int (x : Int) (xs : List Int) : inV (.int x) (xs.map V.int) = decide (x ∈ xs) := by
  unfold inV
  rw [Bool.eq_iff_iff]
  simp [eqV]

/-- the pieces as lists of wares -/
structure PiecesOf (n : Int) (S : List Stall) (Ps : List (List Int)) : Prop where
  each : ∀ p ∈ Ps, ∃ r, 0 ≤ r ∧ r < n ∧ ∀ x, x ∈ p ↔ Con S r x
  nd : Ps.flatten.Nodup
  cover : ∀ x, 0 ≤ x → x < n → x ∈ Ps.flatten
def TupsAt (H : Hp) (ts : List Addr) (Ps : List (List Int)) : Prop := Paired (fun t p => H t = some (.tup (p.map V.int))) ts Ps
theorem TupsAt.same {H H' : Hp} {ts : List Addr} {Ps : List (List Int)} (h : TupsAt H ts Ps) (e : Same H H') : TupsAt H' ts Ps := Paired.mapP h fun _ _ q => e _ _ q
theorem TupsAt.snoc {H : Hp} : ∀ {ts : List Addr} {Ps : List (List Int)} {t : Addr} {p : List Int}, TupsAt H ts Ps → H t = some (.tup (p.map V.int)) → TupsAt H (ts ++ [t]) (Ps ++ [p])
  | _, _, _, _, .nil, k => .cons k .nil
  | _, _, _, _, .cons a b, k => .cons a (TupsAt.snoc b k)
theorem con_in {n : Int} {S : List Stall} (g : Good n S) {r x : Int} (r0 : 0 ≤ r) (r1 : r < n) (h : Con S r x) : 0 ≤ x ∧ x < n :=
  h (fun y => 0 ≤ y ∧ y < n) (fun st m => ⟨fun _ => ⟨(g st m).b0, (g st m).b1⟩, fun _ => ⟨(g st m).a0, (g st m).a1⟩⟩) ⟨r0, r1⟩

abbrev st_pieces : Stmt := topS 25
theorem sc_pieces : FnScope ["web", "found", "known", "ware"] ["web"] (defScope st_pieces) := ⟨rfl, rfl, rfl, by decide +kernel, rfl, by decide +kernel, by decide +kernel⟩
def spPieces (K : PySem.W.Frag) (Cw : Addr) : Sp := fun vs H Q _ => ∃ (v : V) (n : Int) (S : List Stall), vs = [v] ∧ WebA K Cw H v n S ∧ GoodW n S ∧
  ∀ (Ps : List (List Int)) ts l H', Same H H' → H' l = some (.lst (ts.map V.ref)) → TupsAt H' ts Ps → PiecesOf n S Ps → Q (.ref l) H'
theorem ok_pieces (D : Def K mg "pieces" st_pieces ["web"]) (T : Txt K mg C Cw) (c_piece_of : Cal P w K mg base "piece_of" 6 ["web", "ware"] (spPiece K Cw)) : Cal P w K mg base "pieces" 7 ["web"] (spPieces K Cw) := by
  refine D.ok sc_pieces (fun vs H Q E h => ?_) (fun f cdv A outer s H vs Q E hr h => ?_)
  · obtain ⟨v, n, S, rfl, _⟩ := h
    rfl
  · obtain ⟨v, n, S, rfl, hw, g, k⟩ := h
    refine ⟨_, (pss_cons (ps_set (i := 1) sc_pieces.nd rfl (Or.inl rfl) (pe_lst pa_nil))
        (pss_cons (ps_set (i := 2) sc_pieces.nd rfl (Or.inl rfl) (pe_tup pa_nil))
        (pss_cons (ps_for PassesOwn.never rfl (pi_range1 (by rfl) T.z_range (pa_cons (pe_fld (pv 0) rfl) pa_nil)) (pg_name (i := 3) sc_pieces.nd rfl (Or.inl rfl)) (pss_one (ps_if (pt_cmpR op_notIn_seq (pv 3) (pv 2) (by rfl)) (pss_cons (ps_expr (pe_bm PySem.F.plainAttrs_list PySem.F.slot_list_append PySem.F.type_list_append mt_append (pv 1) (pa_cons (pe_cal c_piece_of (hr.mono (by decide)) (by rfl) (pa_cons (pv 0) (pa_cons (pv 3) pa_nil))) pa_nil)))
        (pss_one (ps_set (i := 2) sc_pieces.nd rfl (Or.inl rfl) (pe_op op_catA (pv 2) (pe_ix ix_list (pv 1) (pe_un un_neg pe_int) (fun _ _ => rfl)))))) pss_nil)))
        (pss_one (ps_ret (pv 1)))))), ?_⟩
    have g1 := g.n1
    have g8 := g.n8
    have glen := g.len
    refine ⟨by show 0 ≤ sizeLine; exact Nat.zero_le _, fun l hl => ?_⟩
    refine ⟨by show 0 ≤ sizeLine; exact Nat.zero_le _, fun t0 ht0 => ?_⟩
    have hw0 := hw
    obtain ⟨a, dx, t, xs, rfl, ha, ht, hs⟩ := hw0
    have sa : Same H (upd (upd H l (.lst [])) t0 (.tup [])) := (same_upd hl).trans (same_upd ht0)
    refine ⟨_, rfl, a, Cw, dx, _, _, rfl, sa _ _ ha, T.clW, T.nWar, webF_wares n t, n, rfl, by omega, by omega, ?_⟩
    refine for_range (fun i σ H' => ∃ (Ps : List (List Int)) (ts : List Addr) (kt : Addr) (u : Option V), Same H H' ∧ H' l = some (.lst (ts.map V.ref)) ∧ TupsAt H' ts Ps ∧ H' kt = some (.tup (Ps.flatten.map V.int)) ∧
      σ = [some (.ref a), some (.ref l), some (.ref kt), u] ∧ (∀ p ∈ Ps, ∃ r, 0 ≤ r ∧ r < n ∧ ∀ x, x ∈ p ↔ Con S r x) ∧ Ps.flatten.Nodup ∧ (∀ x : Int, 0 ≤ x → x < i → x ∈ Ps.flatten) ∧ ts.length ≤ i) ?_ ?_ ?_
    · refine ⟨[], [], t0, none, sa, ?_, .nil, upd_same, rfl, by simp, by simp, fun x h0 h1 => by omega, by simp⟩
      rw [upd_ne (ne_of_none upd_same ht0), upd_same]
      rfl
    · rintro i σ H1 hi ⟨Ps, ts, kt, u, s1, h1, h2, h3, rfl, h4, h5, h6, h7⟩
      rw [Int.zero_add]
      refine ⟨_, rfl, _, rfl, kt, _, rfl, .inr (SqT.of h3), rfl, by simp [flatV], ?_⟩
      rw [if_pos rfl, inV_int]
      refine ⟨_, rfl, ?_⟩
      by_cases c : (i : Int) ∈ Ps.flatten
      · refine iteN (by simp [c]) ⟨Ps, ts, kt, _, s1, h1, h2, h3, rfl, h4, h5, fun x x0 x1 => ?_, by omega⟩
        rcases Int.lt_or_eq_of_le (show x ≤ i by omega) with z | rfl
        · exact h6 x x0 z
        · exact c
      · refine iteY (by simp [c]) ⟨_, rfl, .inl ⟨rfl, _, SqL.of h1⟩, _, rfl, _, rfl, _, n, S, _, rfl, hw.same s1, g, by omega, by omega, fun p t2 H2 s2 e2 pn pc => ?_⟩
        have t1 := s1.trans s2
        have h2' := h2.same s2
        have hlen : ts.length ≤ 8 := by omega
        refine ⟨l, _, _, rfl, rfl, s2 _ _ h1, by rw [List.length_map]; exact small1000 (by omega), ?_⟩
        have e3 : ts.map V.ref ++ [V.ref t2] = (ts ++ [t2]).map V.ref := by simp
        rw [e3]
        have f1 : ∀ b xs, H2 b = some (.tup xs) → (upd H2 l (.lst ((ts ++ [t2]).map V.ref))) b = some (.tup xs) := fun b xs e => by
          rw [upd_ne (ne_of e (s2 _ _ h1) (fun z => nomatch z))]
          exact e
        have pne : p.map V.int ≠ [] := by
          intro z
          have : (i : Int) ∈ p := (pc i).mpr (Con.refl _ _)
          rw [List.map_eq_nil_iff.mp z] at this
          cases this
        have hln : H l = none := hl
        have f2 : TupsAt (upd H2 l (.lst ((ts ++ [t2]).map V.ref))) (ts ++ [t2]) (Ps ++ [p]) := TupsAt.snoc (Paired.mapP h2' fun _ _ q => f1 _ _ q) (f1 _ _ e2)
        have hnew : ∀ x ∈ p, x ∉ Ps.flatten := fun x hx hp => by
          obtain ⟨q, hq, hxq⟩ := List.mem_flatten.mp hp
          obtain ⟨r, r0, r1, hr'⟩ := h4 q hq
          exact c (List.mem_flatten.mpr ⟨q, hq, (hr' _).mpr (((hr' x).mp hxq).trans ((pc x).mp hx).symm)⟩)
        have hnd : (Ps ++ [p]).flatten.Nodup := by
          rw [List.flatten_append, List.nodup_append]
          refine ⟨h5, by simpa using pn, ?_⟩
          rintro x hx y hy rfl
          exact hnew x (by simpa using hy) hx
        have fin : ∀ (kt2 : Addr) (H3 : Hp), Same (upd H2 l (.lst ((ts ++ [t2]).map V.ref))) H3 → H3 kt2 = some (.tup ((Ps ++ [p]).flatten.map V.int)) → ∃ (Ps : List (List Int)) (ts : List Addr) (kt : Addr) (u : Option V), Same H H3 ∧ H3 l = some (.lst (ts.map V.ref)) ∧ TupsAt H3 ts Ps ∧ H3 kt = some (.tup (Ps.flatten.map V.int)) ∧
            [some (V.ref a), some (.ref l), some (.ref kt2), some (V.int i)] = [some (.ref a), some (.ref l), some (.ref kt), u] ∧ (∀ p ∈ Ps, ∃ r, 0 ≤ r ∧ r < n ∧ ∀ x, x ∈ p ↔ Con S r x) ∧ Ps.flatten.Nodup ∧ (∀ x : Int, 0 ≤ x → x < ((i + 1 : Nat) : Int) → x ∈ Ps.flatten) ∧ ts.length ≤ i + 1 := fun kt2 H3 s3 e4 =>
          ⟨Ps ++ [p], ts ++ [t2], kt2, _, (Same.mut t1 hln).trans s3, s3 _ _ upd_same, f2.same s3, e4, rfl, fun q hq => by
            rcases List.mem_append.mp hq with hq | hq
            · exact h4 q hq
            · simp at hq
              subst hq
              exact ⟨i, by omega, by omega, pc⟩, hnd, fun x x0 x1 => by
            rw [List.flatten_append]
            rcases Int.lt_or_eq_of_le (show x ≤ i by omega) with z | rfl
            · exact List.mem_append_left _ (h6 x x0 z)
            · exact List.mem_append_right _ (by simpa using (pc i).mpr (Con.refl _ _)), by simp; omega⟩
        refine ⟨_, rfl, _, rfl, 1, rfl, l, _, -1, .ref t2, rfl, rfl, SqL.of upd_same, by rw [← e3]; exact atI_last _ _, kt, t2, _, _, rfl, rfl, SqT.of (f1 _ _ (s2 _ _ h3)), SqT.of (f1 _ _ e2), ?_, fun z => ?_, fun _ z => absurd z pne, fun _ _ q hq => ?_⟩
        · rw [List.length_map, List.length_map, sizeLine_eq]
          have l1 := nodup_len h5 (n := n) fun x hx => by
            obtain ⟨q, hq, hxq⟩ := List.mem_flatten.mp hx
            obtain ⟨r, r0, r1, hr'⟩ := h4 q hq
            exact con_in g.good r0 r1 ((hr' x).mp hxq)
          have l2 := nodup_len pn (n := n) fun x hx => con_in g.good (show (0 : Int) ≤ i by omega) (by omega) ((pc x).mp hx)
          omega
        · refine fin t2 _ (fun _ _ e => e) ?_
          rw [show (Ps ++ [p]).flatten = Ps.flatten ++ p from by simp, List.map_append (f := V.int), z, List.nil_append]
          exact f1 _ _ e2
        · refine fin q _ (same_upd hq) ?_
          rw [upd_same, show (Ps ++ [p]).flatten = Ps.flatten ++ p from by simp, List.map_append (f := V.int)]
    · rintro σ H1 ⟨Ps, ts, kt, u, s1, h1, h2, h3, rfl, h4, h5, h6, h7⟩
      exact ⟨_, rfl, k Ps ts l H1 s1 h1 h2 ⟨h4, h5, fun x h0 h1 => h6 x h0 (by omega)⟩⟩
end
end K32
end

section
set_option Elab.async false
set_option linter.all false
set_option maxRecDepth 100000
set_option maxHeartbeats 4000000
/-! K32Z: the scales of a web. -/
namespace K32
open PySem PySem.Spec PyProof.Rows L2
section
variable {P : Program} {w : World} {K : PySem.W.Frag} {mg : Str → Option Value} {base : Heap} {C Cw : Addr}

abbrev st_next_scale : Stmt := topS 27
theorem sc_next_scale : FnScope ["stall", "ware", "scale"] ["stall", "ware", "scale"] (defScope st_next_scale) := ⟨rfl, rfl, rfl, by decide +kernel, rfl, by decide +kernel, by decide +kernel⟩
def spNext (K : PySem.W.Frag) (C : Addr) : Sp := fun vs H Q _ => ∃ (v u : V) (wr : Int) (s : Stall) (q : Rat) (m : Nat), vs = [v, .int wr, u] ∧ StA K H v s ∧ BdS s ∧ 0 < s.root ∧ ExA C H u q ∧ Bd m q ∧ 0 < m ∧ m + 24 ≤ 9000 ∧
  ∀ u' H', Same H H' → ExA C H' u' (q * s.hold wr / s.root) → Q u' H'
theorem ok_next_scale (D : Def K mg "next_scale" st_next_scale ["stall", "ware", "scale"]) (T : Txt K mg C Cw) (c_held_of : Cal P w K mg base "held_of" 5 ["stall", "ware"] (spHeld K C)) (c_root_exact : Cal P w K mg base "root_exact" 5 ["stall"] (spRoot K C))
    (m_mul : MCal P w K mg base C "__mul__" 4 ["self", "other"] (spMul C)) (m_over : MCal P w K mg base C "over" 4 ["self", "other"] (spOver C)) : Cal P w K mg base "next_scale" 6 ["stall", "ware", "scale"] (spNext K C) := by
  refine D.ok sc_next_scale (fun vs H Q E h => ?_) (fun f cdv A outer s H vs Q E hr h => ?_)
  · obtain ⟨v, u, wr, st, q, m, rfl, _⟩ := h
    rfl
  · obtain ⟨v, u, wr, st, q, m, rfl, hs, b, r0, hu, bq, m0, m9, k⟩ := h
    refine ⟨_, (pss_one (ps_ret (pe_mcal m_over (hr.mono (by decide)) T.clE (pe_op (op_ins (op := .Mult) m_mul (hr.mono (by decide)) T.sfE) (pv 2) (pe_cal c_held_of (hr.mono (by decide)) (by rfl) (pa_cons (pv 0) (pa_cons (pv 1) pa_nil)))) (pa_cons (pe_cal c_root_exact (hr.mono (by decide)) (by rfl) (pa_cons (pv 0) pa_nil)) pa_nil)))), ?_⟩
    refine ⟨_, rfl, _, rfl, _, rfl, v, st, wr, rfl, hs, b, fun v1 H1 s1 e1 => ?_⟩
    obtain ⟨a1, dx1, rfl, g1⟩ := hu.same s1
    obtain ⟨a2, dx2, rfl, g2⟩ := e1
    refine ⟨a1, a2, dx1, dx2, _, _, rfl, rfl, g1, g2, _, _, q, st.hold wr, m, 12, rfl, ⟨_, _, rfl, g1⟩, ⟨_, _, rfl, g2⟩, bq, b.hold wr, m0, by decide, by omega, fun v3 H3 s3 e3 => ?_⟩
    obtain ⟨a3, dx3, rfl, g3⟩ := e3
    refine ⟨a3, dx3, _, rfl, g3, exF_over _, _, rfl, v, st, rfl, hs.same (s1.trans s3), b, fun v4 H4 s4 e4 => ?_⟩
    obtain ⟨a4, dx4, rfl, g4⟩ := e4
    exact ⟨_, _, _, _, m + 12, 12, rfl, ⟨_, _, rfl, s4 _ _ g3⟩, ⟨_, _, rfl, g4⟩, r0, bq.mul (b.hold wr), b.r, by omega, by decide, by omega, fun v5 H5 s5 e5 => k _ _ ((s1.trans s3).trans (s4.trans s5)) e5⟩
end

/-! ### the scales as mathematics -/
structure SwM (n : Int) (S : List Stall) (fs : List Int) (f : Int → Rat) : Prop where
  nd : fs.Nodup
  inn : ∀ x ∈ fs, 0 ≤ x ∧ x < n
  pos : ∀ x, 0 < f x
  bd : ∀ x ∈ fs, Bd (1 + 24 * fs.length) (f x)
  rat : ∀ x ∈ fs, ∀ y ∈ fs, Con S x y → ∀ s, FitsBy s S → f x * s y = f y * s x
def putF1 (f : Int → Rat) (y : Int) (q : Rat) : Int → Rat := fun z => if z = y then q else f z
theorem SwM.nil (n : Int) (S : List Stall) : SwM n S [] (fun _ => 1) := ⟨.nil, by simp, fun _ => by show (0 : Rat) < 1; decide +kernel, by simp, by simp⟩
theorem SwM.put {n : Int} {S : List Stall} {fs : List Int} {f : Int → Rat} (h : SwM n S fs f) {y : Int} {q : Rat} (hy : y ∉ fs) (y0 : 0 ≤ y) (y1 : y < n) (q0 : 0 < q) (bq : Bd (1 + 24 * (fs.length + 1)) q)
    (hr : ∀ x ∈ fs, Con S x y → ∀ s, FitsBy s S → f x * s y = q * s x) : SwM n S (fs ++ [y]) (putF1 f y q) := by
  have ne : ∀ x ∈ fs, x ≠ y := fun x hx z => hy (z ▸ hx)
  refine ⟨nodup_snoc h.nd hy, fun x hx => ?_, fun x => ?_, fun x hx => ?_, fun x hx z hz c s fit => ?_⟩
  · rcases List.mem_append.mp hx with hx | hx
    · exact h.inn x hx
    · simp at hx
      subst hx
      exact ⟨y0, y1⟩
  · unfold putF1
    split
    · exact q0
    · exact h.pos x
  · rw [List.length_append]
    unfold putF1
    rcases List.mem_append.mp hx with hx | hx
    · rw [if_neg (ne x hx)]
      exact (h.bd x hx).mono (by simp; omega)
    · simp at hx
      subst hx
      rw [if_pos rfl]
      exact bq
  · unfold putF1
    rcases List.mem_append.mp hx with hx1 | hx1 <;> rcases List.mem_append.mp hz with hz1 | hz1
    · rw [if_neg (ne x hx1), if_neg (ne z hz1)]
      exact h.rat x hx1 z hz1 c s fit
    · have e := List.mem_singleton.mp hz1
      rw [if_neg (ne x hx1), if_pos e, e]
      exact hr x hx1 (e ▸ c) s fit
    · have e := List.mem_singleton.mp hx1
      rw [if_neg (ne z hz1), if_pos e, e]
      exact (hr z hz1 (e ▸ c).symm s fit).symm
    · rw [List.mem_singleton.mp hz1, List.mem_singleton.mp hx1]
theorem SwM.step {n : Int} {S : List Stall} {fs : List Int} {f : Int → Rat} (h : SwM n S fs f) (g : Good n S) {st : Stall} (m : st ∈ S) (b : BdS st) {x : Int} (hx : x ∈ fs) (ha : st.Has x) (hy : st.oth x ∉ fs) :
    SwM n S (fs ++ [st.oth x]) (putF1 f (st.oth x) (f x * st.hold x / st.root)) := by
  have gs := g st m
  have hp : 0 < st.hold x := by
    unfold Stall.hold
    split
    · exact gs.h
    · exact gs.b
  have r0 := gs.r
  have yn : 0 ≤ st.oth x ∧ st.oth x < n := by
    unfold Stall.oth
    split
    · exact ⟨gs.b0, gs.b1⟩
    · exact ⟨gs.a0, gs.a1⟩
  have rn : st.root.num ≠ 0 := by
    have := num_pos r0
    omega
  refine h.put hy yn.1 yn.2 ?_ ?_ fun z hz c s fit => ?_
  · rw [Rat.div_def]
    exact Rat.mul_pos (Rat.mul_pos (h.pos x) hp) (Rat.inv_pos.mpr r0)
  · exact Bd.mono (((h.bd x hx).mul (b.hold x)).over b.r rn) (by omega)
  · have e1 := h.rat x hx z hz ((Con.step m ha).trans c.symm) s fit
    have e2 := fit_hold gs fit.1 (fit.2 st m) ha
    have e3 : f x * st.hold x / st.root * st.root = f x * st.hold x := Rat.div_mul_cancel (by intro z; rw [z] at r0; exact absurd r0 (by decide +kernel))
    generalize f x * st.hold x / st.root = q at *
    have e4 : (f z * s (st.oth x)) * st.root = (q * s z) * st.root := by grind
    exact rat_cancel r0 e4
end K32
end

section
set_option Elab.async false
set_option linter.all false
set_option maxRecDepth 100000
set_option maxHeartbeats 4000000
/-! K32ZB: the scales of a web, walked. -/
namespace K32
open PySem PySem.Spec PyProof.Rows L2

/-- the scales found so far, in the dict at F -/
def FoundH (C : Addr) (H : Hp) (F : Addr) (fs : List Int) (f : Int → Rat) : Prop := ∃ kvs, H F = some (.dK kvs) ∧ kvs.map (·.1) = fs.map Sum.inl ∧ ∀ x v, valV kvs (.inl x) = some v → ExA C H v (f x)
/-- the ways there -/
def WaysH (H : Hp) (F : Addr) (fs : List Int) (m : Nat) : Prop := ∃ kvs, H F = some (.dK kvs) ∧ kvs.map (·.1) = fs.map Sum.inl ∧ ∀ x v, valV kvs (.inl x) = some v → ∃ t ys, v = .ref t ∧ H t = some (.tup ys) ∧ ys.length ≤ m
theorem FoundH.same {C : Addr} {H H' : Hp} {F : Addr} {fs : List Int} {f : Int → Rat} (h : FoundH C H F fs f) (e : Same H H') : FoundH C H' F fs f := by
  obtain ⟨kvs, h1, h2, h3⟩ := h
  exact ⟨kvs, e _ _ h1, h2, fun x v q => (h3 x v q).same e⟩
theorem WaysH.same {H H' : Hp} {F : Addr} {fs : List Int} {m : Nat} (h : WaysH H F fs m) (e : Same H H') : WaysH H' F fs m := by
  obtain ⟨kvs, h1, h2, h3⟩ := h
  exact ⟨kvs, e _ _ h1, h2, fun x v q => by
    obtain ⟨t, ys, e1, e2, e3⟩ := h3 x v q
    exact ⟨t, ys, e1, e _ _ e2, e3⟩⟩
theorem FoundH.upd {C : Addr} {H : Hp} {F X : Addr} {fs : List Int} {f : Int → Rat} {o o2 : HO} (h : FoundH C H F fs f) (hX : H X = some o) (ni : ∀ C dx gs, HO.ins C dx gs ≠ o) (ne : F ≠ X) : FoundH C (upd H X o2) F fs f := by
  obtain ⟨kvs, h1, h2, h3⟩ := h
  refine ⟨kvs, by rw [upd_ne ne]; exact h1, h2, fun x v q => ?_⟩
  obtain ⟨a, dx, rfl, ha⟩ := h3 x v q
  exact ⟨a, dx, rfl, by rw [upd_ne (ne_of ha hX (ni _ _ _))]; exact ha⟩
theorem WaysH.upd {H : Hp} {F X : Addr} {fs : List Int} {m : Nat} {o o2 : HO} (h : WaysH H F fs m) (hX : H X = some o) (ni : ∀ xs, HO.tup xs ≠ o) (ne : F ≠ X) : WaysH (upd H X o2) F fs m := by
  obtain ⟨kvs, h1, h2, h3⟩ := h
  refine ⟨kvs, by rw [upd_ne ne]; exact h1, h2, fun x v q => ?_⟩
  obtain ⟨t, ys, e1, e2, e3⟩ := h3 x v q
  exact ⟨t, ys, e1, by rw [upd_ne (ne_of e2 hX (ni _))]; exact e2, e3⟩
theorem FoundH.get {C : Addr} {H : Hp} {F : Addr} {fs : List Int} {f : Int → Rat} (h : FoundH C H F fs f) {x : Int} (hx : x ∈ fs) : ∃ v, DGet H F (.int x) (some v) ∧ ExA C H v (f x) := by
  obtain ⟨kvs, h1, h2, h3⟩ := h
  have e := valV_keys h2 x
  rw [decide_eq_true hx] at e
  obtain ⟨v, hv⟩ := Option.isSome_iff_exists.mp e
  refine ⟨v, ?_, h3 x v hv⟩
  rw [← hv]
  exact DGet.k (k := .inl x) h1
theorem FoundH.in_ {C : Addr} {H : Hp} {F : Addr} {fs : List Int} {f : Int → Rat} (h : FoundH C H F fs f) (x : Int) : ∃ o, DGet H F (.int x) o ∧ o.isSome = decide (x ∈ fs) := by
  obtain ⟨kvs, h1, h2, h3⟩ := h
  exact ⟨_, DGet.k (k := .inl x) h1, valV_keys h2 x⟩
theorem WaysH.get {H : Hp} {F : Addr} {fs : List Int} {m : Nat} (h : WaysH H F fs m) {x : Int} (hx : x ∈ fs) : ∃ t ys, DGet H F (.int x) (some (.ref t)) ∧ H t = some (.tup ys) ∧ ys.length ≤ m := by
  obtain ⟨kvs, h1, h2, h3⟩ := h
  have e := valV_keys h2 x
  rw [decide_eq_true hx] at e
  obtain ⟨v, hv⟩ := Option.isSome_iff_exists.mp e
  obtain ⟨t, ys, e1, e2, e3⟩ := h3 x v hv
  refine ⟨t, ys, ?_, e2, e3⟩
  rw [← e1, ← hv]
  exact DGet.k (k := .inl x) h1
theorem FoundH.put {C : Addr} {H : Hp} {F : Addr} {fs : List Int} {f : Int → Rat} (h : FoundH C H F fs f) {y : Int} (hy : y ∉ fs) (hz : fs.length < 900) {v : V} {q : Rat} (hv : ExA C H v q) :
    ∃ kvs o', H F = some (.dK kvs) ∧ DPut H F (.int y) v (L2.upd H F o') ∧ FoundH C (L2.upd H F o') F (fs ++ [y]) (putF1 f y q) ∧ ∃ k2, o' = .dK k2 := by
  obtain ⟨kvs, h1, h2, h3⟩ := h
  have ni : ∀ u p, ExA C H u p → ExA C (L2.upd H F (.dK (putK kvs (.inl y) v))) u p := by
    rintro u p ⟨a, dx, rfl, ha⟩
    exact ⟨a, dx, rfl, by rw [upd_ne (ne_of ha h1 (fun z => nomatch z))]; exact ha⟩
  refine ⟨kvs, _, h1, DPut.k (k := .inl y) h1 (small1000 (by rw [keys_len h2]; omega)), ⟨_, upd_same, keys_put h2 hy v, fun x u hu => ?_⟩, _, rfl⟩
  rw [valV_put] at hu
  unfold putF1
  by_cases c : x = y
  · subst c
    rw [if_pos rfl] at hu ⊢
    cases hu
    exact ni _ _ hv
  · rw [if_neg (fun z => c (Sum.inl.inj z))] at hu
    rw [if_neg c]
    exact ni _ _ (h3 x u hu)
theorem WaysH.put {H : Hp} {F : Addr} {fs : List Int} {m : Nat} (h : WaysH H F fs m) {y : Int} (hy : y ∉ fs) (hz : fs.length < 900) {t : Addr} {ys : List V} (hv : H t = some (.tup ys)) (hl : ys.length ≤ m + 1) :
    ∃ kvs o', H F = some (.dK kvs) ∧ DPut H F (.int y) (.ref t) (L2.upd H F o') ∧ WaysH (L2.upd H F o') F (fs ++ [y]) (m + 1) ∧ ∃ k2, o' = .dK k2 := by
  obtain ⟨kvs, h1, h2, h3⟩ := h
  have ni : ∀ b xs, H b = some (.tup xs) → (L2.upd H F (.dK (putK kvs (.inl y) (.ref t)))) b = some (.tup xs) := fun b xs e => by
    rw [upd_ne (ne_of e h1 (fun z => nomatch z))]
    exact e
  refine ⟨kvs, _, h1, DPut.k (k := .inl y) h1 (small1000 (by rw [keys_len h2]; omega)), ⟨_, upd_same, keys_put h2 hy _, fun x u hu => ?_⟩, _, rfl⟩
  rw [valV_put] at hu
  by_cases c : x = y
  · subst c
    rw [if_pos rfl] at hu
    cases hu
    exact ⟨t, ys, rfl, ni _ _ hv, hl⟩
  · rw [if_neg (fun z => c (Sum.inl.inj z))] at hu
    obtain ⟨t2, zs, e1, e2, e3⟩ := h3 x u hu
    exact ⟨t2, zs, e1, ni _ _ e2, by omega⟩
theorem con_closed2 {n : Int} {S : List Stall} (g : Good n S) {r : Int} {fs : List Int} (h0 : r ∈ fs) (hc : ∀ x ∈ fs, ∀ st ∈ S, st.Has x → st.oth x ∈ fs) {x : Int} (h : Con S r x) : x ∈ fs :=
  h (fun y => y ∈ fs) (cl_of g fun st m w hw k => hc w k st m hw) h0

theorem gName_of {i : Nat} {v : V} {σ : L2.St} {H : Hp} {Q : L2.St → Hp → Prop} (h : Q (σ.set i (some v)) H) : gName i v σ H Q := h
theorem seq_of {t u : TS} {D : Ends} {σ : L2.St} {H : Hp} (h : t { D with nx := u D } σ H) : tSeq t u D σ H := h
theorem dput_of {td ty tv : TE} {D : Ends} {σ : L2.St} {H : Hp} (h : tv σ H fun v H1 => td σ H1 fun x H2 => ty σ H2 fun y H3 => ∃ a H4, x = .ref a ∧ DPut H3 a y v H4 ∧ D.nx σ H4) : sDPut td ty tv D σ H := h
theorem catA_of {K : PySem.W.Frag} {H : Hp} {a b : Addr} {xs ys : List V} {Q : VK} (ha : H a = some (.tup xs)) (hb : H b = some (.tup ys)) (hz : xs.length + ys.length ≤ 900) (hy : ys ≠ [])
    (k : ∀ p H', Same H H' → H' p = some (.tup (xs ++ ys)) → Q (.ref p) H') : rCatA K (.ref a) (.ref b) H Q := by
  refine ⟨a, b, xs, ys, rfl, rfl, SqT.of ha, SqT.of hb, by rw [sizeLine_eq]; omega, fun z => ?_, fun _ z => absurd z hy, fun _ _ p hp => k p _ (same_upd hp) upd_same⟩
  subst z
  exact k b H (fun _ _ e => e) hb
theorem TupsAt.get {H : Hp} : ∀ {ts : List Addr} {Ps : List (List Int)} {i : Nat} {t : Addr}, TupsAt H ts Ps → ts[i]? = some t → ∃ p, Ps[i]? = some p ∧ H t = some (.tup (p.map V.int))
  | _, _, _, _, .nil, e => by simp at e
  | _, _, 0, _, .cons r _, e => by
    simp at e
    subst e
    exact ⟨_, rfl, r⟩
  | _, _, i + 1, t, .cons _ q, e => by
    obtain ⟨u, h1, h2⟩ := TupsAt.get (i := i) (t := t) q (by simpa using e)
    exact ⟨u, by simpa using h1, h2⟩
theorem has_iff {st : Stall} {x : Int} : x ∈ [st.one, st.other] ↔ st.Has x := by
  unfold Stall.Has
  simp only [List.mem_cons, List.not_mem_nil, or_false]
  exact ⟨fun h => h.imp Eq.symm Eq.symm, fun h => h.imp Eq.symm Eq.symm⟩
section
variable {P : Program} {w : World} {K : PySem.W.Frag} {mg : Str → Option Value} {base : Heap} {C Cw : Addr}

abbrev st_scales_and_ways : Stmt := topS 28
theorem sc_scales_and_ways : FnScope ["web", "found", "ways", "piece", "waiting", "here", "index", "stall", "there"] ["web"] (defScope st_scales_and_ways) := ⟨rfl, rfl, rfl, by decide +kernel, rfl, by decide +kernel, by decide +kernel⟩
/-- the scales: all wares, right if any are right -/
structure ScalesOf (n : Int) (S : List Stall) (fs : List Int) (f : Int → Rat) : Prop where
  m : SwM n S fs f
  all : ∀ x, 0 ≤ x → x < n → x ∈ fs
def spScales (K : PySem.W.Frag) (C Cw : Addr) : Sp := fun vs H Q _ => ∃ (v : V) (n : Int) (S : List Stall), vs = [v] ∧ WebA K Cw H v n S ∧ GoodW n S ∧
  ∀ (t F : Addr) (u : V) (fs : List Int) (f : Int → Rat) H', Same H H' → H' t = some (.tup [.ref F, u]) → FoundH C H' F fs f → ScalesOf n S fs f → Q (.ref t) H'
theorem ok_scales_and_ways (D : Def K mg "scales_and_ways" st_scales_and_ways ["web"]) (T : Txt K mg C Cw) (c_pieces : Cal P w K mg base "pieces" 7 ["web"] (spPieces K Cw)) (c_other_ware : Cal P w K mg base "other_ware" 1 ["stall", "ware"] (spOther K))
    (c_next_scale : Cal P w K mg base "next_scale" 6 ["stall", "ware", "scale"] (spNext K C)) (i_Exact : ICal P w K mg base "Exact" C 2 ["self", "top", "bottom"] (spInitE C)) : Cal P w K mg base "scales_and_ways" 8 ["web"] (spScales K C Cw) := by
  refine D.ok sc_scales_and_ways (fun vs H Q E h => ?_) (fun f cdv A outer s H vs Q E hr h => ?_)
  · obtain ⟨v, n, S, rfl, _⟩ := h
    rfl
  · obtain ⟨v, n, S, rfl, hw, g, k⟩ := h
    refine ⟨_, (pss_cons (ps_set (i := 1) sc_scales_and_ways.nd rfl (Or.inl rfl) pe_dnewK)
        (pss_cons (ps_set (i := 2) sc_scales_and_ways.nd rfl (Or.inl rfl) pe_dnewK)
        (pss_cons (ps_for PassesOwn.never rfl (pi_list (pe_cal c_pieces (hr.mono (by decide)) (by rfl) (pa_cons (pv 0) pa_nil))) (pg_name (i := 3) sc_scales_and_ways.nd rfl (Or.inl rfl)) (pss_cons (ps_dput (hu_of hr) (pv 1) (pe_ix ix_tup (pv 3) pe_int (fun _ _ => rfl)) (pe_ical i_Exact (hr.mono (by decide)) (by rfl) (pa_cons pe_int (pa_cons pe_int pa_nil))) rfl)
        (pss_cons (ps_dput (hu_of hr) (pv 2) (pe_ix ix_tup (pv 3) pe_int (fun _ _ => rfl)) (pe_tup pa_nil) rfl)
        (pss_cons (ps_set (i := 4) sc_scales_and_ways.nd rfl (Or.inl rfl) (pe_lst (pa_cons (pe_ix ix_tup (pv 3) pe_int (fun _ _ => rfl)) pa_nil)))
        (pss_one (ps_while PassesOwn.never (pt_cmpR (op_neP (u62 hr)) (pv 4) (pe_lst pa_nil) (nomark _)) (pss_cons (ps_set (i := 5) sc_scales_and_ways.nd rfl (Or.inl rfl) (pe_bm0 PySem.F.plainAttrs_list PySem.F.slot_list_pop PySem.F.type_list_pop mt_pop (pv 4)))
        (pss_one (ps_for PassesOwn.never rfl (pi_enumT (by rfl) T.z_enumerate (pa_cons (pe_fld (pv 0) rfl) pa_nil)) (pg_tup (n := 2) rfl (pgs_cons (pg_name (i := 6) sc_scales_and_ways.nd rfl (Or.inl rfl)) (pgs_cons (pg_name (i := 7) sc_scales_and_ways.nd rfl (Or.inl rfl)) pgs_nil))) (pss_one (ps_if (PW.pt (pw_and (pt_cmpR op_in_seq (pv 5) (pe_slice sl_tup (pv 7) po_none (po_some pe_int)) (by rfl)) (pw_and1 (pt_cmp (pc_dnotin (hu_of hr) (pe_cal c_other_ware (hr.mono (by decide)) (by rfl) (pa_cons (pv 7) (pa_cons (pv 5) pa_nil))) (pv 1)))))) (pss_cons (ps_set (i := 8) sc_scales_and_ways.nd rfl (Or.inl rfl) (pe_cal c_other_ware (hr.mono (by decide)) (by rfl) (pa_cons (pv 7) (pa_cons (pv 5) pa_nil))))
        (pss_cons (ps_dput (hu_of hr) (pv 1) (pv 8) (pe_cal c_next_scale (hr.mono (by decide)) (by rfl) (pa_cons (pv 7) (pa_cons (pv 5) (pa_cons (pe_dget (hu_of hr) (pv 1) (pv 5) (fun _ _ => rfl)) pa_nil)))) rfl)
        (pss_cons (ps_dput (hu_of hr) (pv 2) (pv 8) (pe_op op_catA (pe_dget (hu_of hr) (pv 2) (pv 5) (fun _ _ => rfl)) (pe_tup (pa_cons (pe_tup (pa_cons (pv 6) (pa_cons (pv 5) pa_nil))) pa_nil))) rfl)
        (pss_one (ps_expr (pe_bm PySem.F.plainAttrs_list PySem.F.slot_list_append PySem.F.type_list_append mt_append (pv 4) (pa_cons (pv 8) pa_nil))))))) pss_nil)))))))))))
        (pss_one (ps_ret (pe_tup (pa_cons (pv 1) (pa_cons (pv 2) pa_nil)))))))), ?_⟩
    have g1 := g.n1
    have g8 := g.n8
    have glen := g.len
    intro F hF
    intro Wd hWd
    have hWF : Wd ≠ F := fun z => by
      rw [z, upd_same] at hWd
      cases hWd
    have s0 : Same H (upd (upd H F (.dK [])) Wd (.dK [])) := (same_upd hF).trans (same_upd hWd)
    refine ⟨_, rfl, v, n, S, rfl, hw.same s0, g, fun Ps ts l H1 s1 hl hts hP => ?_⟩
    obtain ⟨a, dx, t, xs, rfl, ha, ht, hs⟩ := hw
    have hF1 : H1 F = some (.dK []) := s1 _ _ (by rw [upd_ne (Ne.symm hWF), upd_same])
    have hW1 : H1 Wd = some (.dK []) := s1 _ _ upd_same
    have hWdH : H Wd = none := by
      rw [upd_ne hWF] at hWd
      exact hWd
    have sm : ∀ H' : Hp, (∀ b o, b ≠ F → b ≠ Wd → H1 b = some o → H' b = some o) → Same H H' := fun H' hb b o e => hb b o (ne_of_none e hF) (ne_of_none e hWdH) (s1 _ _ (s0 _ _ e))
    have lF : l ≠ F := ne_of hl hF1 (fun z => nomatch z)
    have lW : l ≠ Wd := ne_of hl hW1 (fun z => nomatch z)
    refine ⟨l, rfl, ⟨_, SqL.of hl⟩, ?_⟩
    refine for_list (K := K) (xs := ts.map V.ref) (fun i σ H' => ∃ (fs : List Int) (f : Int → Rat) (u3 u4 u5 u6 u7 u8 : Option V), (∀ b o, b ≠ F → b ≠ Wd → H1 b = some o → H' b = some o) ∧ FoundH C H' F fs f ∧ WaysH H' Wd fs fs.length ∧ SwM n S fs f ∧
      (∀ x ∈ fs, ∀ st ∈ S, st.Has x → st.oth x ∈ fs) ∧ (∀ x ∈ fs, x ∈ (Ps.take i).flatten) ∧ (∀ x ∈ (Ps.take i).flatten, x ∈ fs) ∧ σ = [some (.ref a), some (.ref F), some (.ref Wd), u3, u4, u5, u6, u7, u8]) ?_ ?_ ?_ ?_
    · exact ⟨[], fun _ => 1, _, _, _, _, _, _, fun b o _ _ e => e, ⟨[], hF1, rfl, fun x v e => by simp [valV_nil] at e⟩, ⟨[], hW1, rfl, fun x v e => by simp [valV_nil] at e⟩, SwM.nil n S, by simp, by simp, by simp, rfl⟩
    · rintro i σ H' _ ⟨fs, f, u3, u4, u5, u6, u7, u8, hb, _⟩
      exact SqL.of (hb _ _ lF lW hl)
    · rintro i x σ H2 hx ⟨fs, f, u3, u4, u5, u6, u7, u8, hb, hf, hwy, hm, hcl, hin1, hin2, rfl⟩
      rw [List.getElem?_map] at hx
      obtain ⟨ti, hti, rfl⟩ := Option.map_eq_some_iff.mp hx
      obtain ⟨p, hp, htp⟩ := hts.get hti
      obtain ⟨r0, r00, r01, hr0⟩ := hP.each p (List.mem_of_getElem? hp)
      match p, hp, htp, hr0 with
      | [], _, _, hr0 => exact absurd ((hr0 r0).mpr (Con.refl _ _)) (by simp)
      | r :: p', hp, htp, hr0 =>
      have tF : ti ≠ F := ne_of htp hF1 (fun z => nomatch z)
      have tW : ti ≠ Wd := ne_of htp hW1 (fun z => nomatch z)
      have hrr : Con S r0 r := (hr0 r).mp (by simp)
      have hrp : ∀ x, x ∈ r :: p' ↔ Con S r x := fun x => (hr0 x).trans ⟨fun h => hrr.symm.trans h, fun h => hrr.trans h⟩
      have hrn := con_in g.good r00 r01 hrr
      have htk : (Ps.take (i + 1)).flatten = (Ps.take i).flatten ++ (r :: p') := by
        rw [take_snoc hp]
        simp
      have hdis : ∀ x, x ∈ (Ps.take i).flatten → x ∉ r :: p' := by
        have h1 := hP.nd
        rw [← List.take_append_drop (i + 1) Ps, List.flatten_append, htk] at h1
        have h2 := (List.nodup_append.mp (List.nodup_append.mp h1).1).2.2
        exact fun x hx hy => h2 x hx x hy rfl
      have hrf : r ∉ fs := fun z => hdis r (hin1 r z) (by simp)
      have hfl := nodup_len hm.nd hm.inn
      have btp := hb _ _ tF tW htp
      refine gName_of (seq_of (dput_of ?_))
      refine mkE_c (t := 1) (b := 1) (by decide) (lt9000 (m := 1) (by decide) (by decide)) fun v1 H3 s3 e1 => ?_
      rw [show Rat.divInt 1 1 = 1 from by decide +kernel] at e1
      obtain ⟨kv1, o1, p1, p2, p3, k1, rfl⟩ := (hf.same s3).put hrf (by omega) e1
      refine ⟨_, rfl, _, rfl, ti, _, 0, .int r, rfl, rfl, SqT.of (s3 _ _ btp), atI_nat (j := 0) rfl, F, _, rfl, p2, ?_⟩
      have hwy2 : WaysH (L2.upd H3 F (.dK k1)) Wd fs fs.length := (hwy.same s3).upd p1 (fun _ z => nomatch z) hWF
      refine ⟨by show 0 ≤ sizeLine; exact Nat.zero_le _, fun t0 ht0 => ?_⟩
      obtain ⟨kv2, o2, q1, q2, q3, k2, rfl⟩ := (hwy2.same (same_upd (o := .tup []) ht0)).put hrf (by omega) (t := t0) (ys := []) upd_same (by simp)
      have f3 : H3 ti = some (.tup ((r :: p').map V.int)) := s3 _ _ btp
      have f4 : upd (upd H3 F (.dK k1)) t0 (.tup []) ti = some (.tup ((r :: p').map V.int)) := same_upd ht0 _ _ (by rw [upd_ne tF]; exact f3)
      refine ⟨_, rfl, _, rfl, ti, _, 0, .int r, rfl, rfl, SqT.of f4, atI_nat (j := 0) rfl, Wd, _, rfl, q2, ?_⟩
      have f5 : upd (upd (upd H3 F (.dK k1)) t0 (.tup [])) Wd (.dK k2) ti = some (.tup ((r :: p').map V.int)) := by
        rw [upd_ne tW]
        exact f4
      have g5 : FoundH C (upd (upd (upd H3 F (.dK k1)) t0 (.tup [])) Wd (.dK k2)) F (fs ++ [r]) (putF1 f r 1) := (p3.same (same_upd ht0)).upd q1 (fun _ _ _ z => nomatch z) (Ne.symm hWF)
      have b5 : ∀ b o, b ≠ F → b ≠ Wd → H1 b = some o → upd (upd (upd H3 F (.dK k1)) t0 (.tup [])) Wd (.dK k2) b = some o := fun b o nF nW e => by
        rw [upd_ne nW]
        refine same_upd ht0 _ _ ?_
        rw [upd_ne nF]
        exact s3 _ _ (hb b o nF nW e)
      generalize upd (upd (upd H3 F (.dK k1)) t0 (.tup [])) Wd (.dK k2) = H5 at *
      refine ⟨_, rfl, ti, _, 0, .int r, rfl, rfl, SqT.of f5, atI_nat (j := 0) rfl, by show 1 ≤ sizeLine; decide, fun Wt hWt => ?_⟩
      have hm5 : SwM n S (fs ++ [r]) (putF1 f r 1) := hm.put hrf hrn.1 hrn.2 (by decide +kernel) (Bd.mono (n := 1) ⟨by decide, by decide⟩ (by omega)) fun x hx c s fit => absurd (con_closed2 g.good hx hcl c) hrf
      have wF : Wt ≠ F := fun z => by
        obtain ⟨_, e, _⟩ := g5
        rw [z, e] at hWt
        cases hWt
      have wW : Wt ≠ Wd := fun z => by
        obtain ⟨_, e, _⟩ := q3
        rw [z, e] at hWt
        cases hWt
      have hWt1 : H1 Wt = none := by
        cases e : H1 Wt with
        | none => rfl
        | some o => rw [b5 _ _ wF wW e] at hWt; cases hWt
      refine ⟨fun m σ H' => ∃ (fs ws : List Int) (f : Int → Rat) (u5 u6 u7 u8 : Option V), (∀ b o, b ≠ F → b ≠ Wd → H1 b = some o → H' b = some o) ∧ FoundH C H' F fs f ∧ WaysH H' Wd fs fs.length ∧ SwM n S fs f ∧ H' Wt = some (.lst (ws.map V.int)) ∧
        σ = [some (.ref a), some (.ref F), some (.ref Wd), some (.ref ti), some (.ref Wt), u5, u6, u7, u8] ∧ (∀ x ∈ ws, x ∈ fs) ∧ r ∈ fs ∧ (∀ x ∈ fs, x ∉ ws → ∀ st ∈ S, st.Has x → st.oth x ∈ fs) ∧ (∀ x ∈ fs, x ∈ (Ps.take i).flatten ∨ Con S r x) ∧ (∀ x ∈ ws, Con S r x) ∧
        (∀ x ∈ (Ps.take i).flatten, x ∈ fs) ∧ m = 2 * (8 - fs.length) + ws.length ∧ 2 * (8 - fs.length) + ws.length ≤ 17, ⟨_, fs ++ [r], [r], putF1 f r 1, _, _, _, _, fun b o nF nW e => same_upd hWt _ _ (b5 b o nF nW e), g5.same (same_upd hWt), ?_, hm5, upd_same, rfl,
          by simp, by simp, fun x hx hn st m hh => ?_, fun x hx => ?_, fun x hx => ?_, fun x hx => List.mem_append_left _ (hin2 x hx), rfl, by simp; omega⟩, ?_⟩
      · have := q3.same (same_upd (o := .lst [.int r]) hWt)
        rw [List.length_append]
        exact this
      · rcases List.mem_append.mp hx with hx | hx
        · exact List.mem_append_left _ (hcl x hx st m hh)
        · exact absurd hx hn
      · rcases List.mem_append.mp hx with hx | hx
        · exact .inl (hin1 x hx)
        · rw [List.mem_singleton.mp hx]
          exact .inr (Con.refl _ _)
      · rw [List.mem_singleton.mp hx]
        exact Con.refl _ _
      · clear g5 q3 hm5 f5 b5 hWt q2 q1 f4 p3 p2 p1 hwy2
        rintro m σ H6 ⟨fs, ws, f, u5, u6, u7, u8, hb, hf, hwy, hm, hWt, rfl, hsub, hrf, hcl, hin, hwc, hin2, rfl, h17⟩
        have hfl := nodup_len hm.nd hm.inn
        refine wait_test rfl hWt (dpAll_ints ws) (plain_ints ws) (by rw [depth_ints']; decide) fun H7 s7 => ?_
        have hb7 : ∀ b o, b ≠ F → b ≠ Wd → H1 b = some o → H7 b = some o := fun b o nF nW e => s7 _ _ (hb b o nF nW e)
        rcases List.eq_nil_or_concat ws with rfl | ⟨ws', x, rfl⟩
        · refine iteF ?_
          have hcl' : ∀ x ∈ fs, ∀ st ∈ S, st.Has x → st.oth x ∈ fs := fun x hx => hcl x hx (by simp)
          refine ⟨fs, f, _, _, _, _, _, _, hb7, hf.same s7, hwy.same s7, hm, hcl', fun x hx => ?_, fun x hx => ?_, rfl⟩
          · rw [htk, List.mem_append]
            exact (hin x hx).imp id fun c => (hrp x).mpr c
          · rw [htk, List.mem_append] at hx
            rcases hx with hx | hx
            · exact hin2 x hx
            · exact con_closed2 g.good hrf hcl' ((hrp x).mp hx)
        · have hne : (!((ws'.concat x).map PyData.int).isEmpty) = true := by simp
          refine iteY hne ⟨fun σ' H' => ∃ m', m' < _ ∧ _, fun σ' H' z => z, ?_⟩
          rw [List.concat_eq_append] at hWt hsub hcl hwc h17 ⊢
          have hxf : x ∈ fs := hsub x (by simp)
          have e7 := s7 _ _ hWt
          refine ⟨_, rfl, .inl ⟨rfl, _, SqL.of e7⟩, Wt, _, .int x, rfl, rfl, e7, by simp, ?_⟩
          have dl : ((ws' ++ [x]).map V.int).dropLast = ws'.map V.int := by simp
          rw [dl]
          have hb8 : ∀ b o, b ≠ F → b ≠ Wd → H1 b = some o → upd H7 Wt (.lst (ws'.map V.int)) b = some o := fun b o nF nW e => by
            rw [upd_ne (ne_of_none e hWt1)]
            exact hb7 b o nF nW e
          have hf8 : FoundH C (upd H7 Wt (.lst (ws'.map V.int))) F fs f := (hf.same s7).upd e7 (fun _ _ _ z => nomatch z) (Ne.symm wF)
          have hw8 : WaysH (upd H7 Wt (.lst (ws'.map V.int))) Wd fs fs.length := (hwy.same s7).upd e7 (fun _ z => nomatch z) (Ne.symm wW)
          have e8 : upd H7 Wt (.lst (ws'.map V.int)) Wt = some (.lst (ws'.map V.int)) := upd_same
          generalize upd H7 Wt (.lst (ws'.map V.int)) = H8 at *
          have sH8 := sm H8 hb8
          refine ⟨_, rfl, a, Cw, dx, _, _, rfl, sH8 _ _ ha, T.clW, T.nSta, webF_stalls n t, t, _, rfl, ht.ext sH8, ?_⟩
          refine for_it (walk_enumT (K := K) (xs := xs)) (fun q σ H' => ∃ (fs2 ws2 : List Int) (f2 : Int → Rat) (u6 u7 u8 : Option V), (∀ b o, b ≠ F → b ≠ Wd → H1 b = some o → H' b = some o) ∧ FoundH C H' F fs2 f2 ∧ WaysH H' Wd fs2 fs2.length ∧ SwM n S fs2 f2 ∧ H' Wt = some (.lst (ws2.map V.int)) ∧
            σ = [some (.ref a), some (.ref F), some (.ref Wd), some (.ref ti), some (.ref Wt), some (.int x), u6, u7, u8] ∧ (∀ y ∈ ws2, y ∈ fs2) ∧ r ∈ fs2 ∧ (∀ y ∈ fs2, y ∉ ws2 → y ≠ x → ∀ st ∈ S, st.Has y → st.oth y ∈ fs2) ∧ (∀ y ∈ fs2, y ∈ (Ps.take i).flatten ∨ Con S r y) ∧ (∀ y ∈ ws2, Con S r y) ∧
            (∀ y ∈ (Ps.take i).flatten, y ∈ fs2) ∧ (∀ j st, j < q → S[j]? = some st → st.Has x → st.oth x ∈ fs2) ∧ x ∈ fs2 ∧ 2 * (8 - fs2.length) + ws2.length + 1 ≤ 2 * (8 - fs.length) + (ws' ++ [x]).length) ?_ (fun i σ H' _ h => ?_) ?_ ?_
          · exact ⟨fs, ws', f, _, _, _, hb8, hf8, hw8, hm, e8, rfl, fun y hy => hsub y (by simp [hy]), hrf, fun y hy hn hne => hcl y hy (by simp [hn, hne]), hin, fun y hy => hwc y (by simp [hy]), hin2, fun j st hj => absurd hj (Nat.not_lt_zero _), hxf, by simp; omega⟩
          · obtain ⟨_, _, _, _, _, _, h1, _⟩ := h
            exact ht.ext (sm H' h1)
          · rintro q pr σ H9 H10 hi ⟨fs2, ws2, f2, u6, u7, u8, tb, tf, tw, tm, te, rfl, t1, t2, t3, t4, t5, t6, t7, t8, t9⟩ ⟨T0, x1, x2, rfl, hT0, rfl, e1, e2⟩
            cases e1
            obtain ⟨st, es, hst0⟩ := hs.get e2
            have hmS := List.mem_of_getElem? es
            have gs := g.good st hmS
            have bs := g.bd st hmS
            refine ⟨T0, _, rfl, SqT.of upd_same, rfl, _, _, rfl, _, _, rfl, rfl, ?_⟩
            have sT := same_upd (o := .tup [.int (q : Nat), x2]) hT0
            have fb : ∀ b o, b ≠ F → b ≠ Wd → H1 b = some o → upd H9 T0 (.tup [.int (q : Nat), x2]) b = some o := fun b o nF nW e => sT _ _ (tb b o nF nW e)
            have hst := hst0.same (sm _ fb)
            obtain ⟨sb, z1, z2, z3, rfl, hsb, _, _, _⟩ := id hst
            refine ⟨_, rfl, _, rfl, 2, rfl, sb, _, rfl, hsb, (by show ¬ (HT.sIx 5 0 none = 0 ∧ HT.sIx 5 5 (some 2) = 5); decide), fun pc hpc => ?_⟩
            refine ⟨pc, [.int st.one, .int st.other], rfl, .inr (SqT.of upd_same), rfl, by simp [flatV], ?_⟩
            rw [if_neg (by decide), show inV (.int x) [.int st.one, .int st.other] = decide (x ∈ [st.one, st.other]) from inV_int x [st.one, st.other]]
            have sP := sT.trans (same_upd (o := .tup [.int st.one, .int st.other]) hpc)
            have fbP : ∀ b o, b ≠ F → b ≠ Wd → H1 b = some o → upd (upd H9 T0 (.tup [.int (q : Nat), .ref sb])) pc (.tup [.int st.one, .int st.other]) b = some o := fun b o nF nW e => sP _ _ (tb b o nF nW e)
            have tfP := tf.same sP
            have twP := tw.same sP
            have teP := sP _ _ te
            have hstP := hst.same (same_upd (o := .tup [.int st.one, .int st.other]) hpc)
            refine ⟨_, rfl, ?_⟩
            by_cases hh : st.Has x
            case neg =>
              refine iteN (decide_eq_false fun z => hh (has_iff.mp z)) ⟨fs2, ws2, f2, _, _, _, fbP, tfP, twP, tm, teP, rfl, t1, t2, t3, t4, t5, t6, fun j st' hj e h' => ?_, t8, t9⟩
              rcases Nat.lt_succ_iff_lt_or_eq.mp hj with h | rfl
              · exact t7 j st' h e h'
              · rw [es] at e
                cases e
                exact absurd h' hh
            refine iteY (decide_eq_true (has_iff.mpr hh)) ?_
            obtain ⟨o, dg, eo⟩ := tfP.in_ (st.oth x)
            refine ⟨_, rfl, _, rfl, .ref sb, st, x, rfl, hstP, _, rfl, F, o, rfl, dg, _, rfl, ?_⟩
            rw [eo]
            by_cases hy : st.oth x ∈ fs2
            · refine iteN (by simp [hy]) ⟨fs2, ws2, f2, _, _, _, fbP, tfP, twP, tm, teP, rfl, t1, t2, t3, t4, t5, t6, fun j st' hj e h' => ?_, t8, t9⟩
              rcases Nat.lt_succ_iff_lt_or_eq.mp hj with h | rfl
              · exact t7 j st' h e h'
              · rw [es] at e
                cases e
                exact hy
            · have tmQ := tm.step g.good hmS bs t8 hh hy
              have hfl2 := nodup_len tmQ.nd tmQ.inn
              rw [List.length_append] at hfl2
              simp only [List.length_cons, List.length_nil] at hfl2
              obtain ⟨xv, dgx, ex⟩ := tfP.get t8
              refine iteY (by simp [hy]) ⟨_, rfl, _, rfl, .ref sb, st, x, rfl, hstP, ?_⟩
              refine ⟨_, rfl, _, rfl, _, rfl, _, rfl, F, xv, rfl, dgx, .ref sb, xv, x, st, f2 x, 1 + 24 * fs2.length, rfl, hstP, bs, gs.r, ex, tm.bd x t8, by omega, by omega, fun v2 H11 s11 e11 => ?_⟩
              obtain ⟨kvq, oq, m1, m2, m3, kq, rfl⟩ := (tfP.same s11).put hy (by omega) e11
              refine ⟨_, rfl, _, rfl, F, _, rfl, m2, ?_⟩
              have twQ : WaysH (upd H11 F (.dK kq)) Wd fs2 fs2.length := (twP.same s11).upd m1 (fun _ z => nomatch z) hWF
              have teQ : upd H11 F (.dK kq) Wt = some (.lst (ws2.map V.int)) := by
                rw [upd_ne wF]
                exact s11 _ _ teP
              have fbQ : ∀ b o, b ≠ F → b ≠ Wd → H1 b = some o → upd H11 F (.dK kq) b = some o := fun b o nF nW e => by
                rw [upd_ne nF]
                exact s11 _ _ (fbP b o nF nW e)
              clear m2
              generalize upd H11 F (.dK kq) = H12 at *
              obtain ⟨tw2, ys, dgw, ew, lw⟩ := twQ.get t8
              refine ⟨_, rfl, _, rfl, Wd, .ref tw2, rfl, dgw, ?_⟩
              refine ⟨_, rfl, _, rfl, by show 2 ≤ sizeLine; decide, fun p1 hp1 => ⟨by show 1 ≤ sizeLine; decide, fun p2 hp2 => ?_⟩⟩
              have s13 := (same_upd (o := .tup [.int (q : Nat), .int x]) hp1).trans (same_upd (o := .tup [.ref p1]) hp2)
              refine catA_of (s13 _ _ ew) upd_same (by simp; omega) (by simp) fun p3 H14 s14 e14 => ?_
              have s15 := s13.trans s14
              obtain ⟨kv3, o3, r1, r2, r3, k3, rfl⟩ := (twQ.same s15).put hy (by omega) e14 (by simp; omega)
              refine ⟨_, rfl, _, rfl, Wd, _, rfl, r2, ?_⟩
              have te3 : upd H14 Wd (.dK k3) Wt = some (.lst (ws2.map V.int)) := by
                rw [upd_ne wW]
                exact s15 _ _ teQ
              have tf3 : FoundH C (upd H14 Wd (.dK k3)) F (fs2 ++ [st.oth x]) (putF1 f2 (st.oth x) (f2 x * st.hold x / st.root)) := (m3.same s15).upd r1 (fun _ _ _ z => nomatch z) (Ne.symm hWF)
              refine ⟨_, rfl, .inl ⟨rfl, _, SqL.of te3⟩, _, rfl, Wt, _, _, rfl, rfl, te3, by rw [List.length_map]; exact small1000 (by omega), ?_⟩
              refine ⟨fs2 ++ [st.oth x], ws2 ++ [st.oth x], _, _, _, _, fun b o nF nW e => ?_, tf3.upd te3 (fun _ _ _ z => nomatch z) (Ne.symm wF), ?_, tmQ, ?_, rfl, fun y hz => ?_, by simp [t2], fun y hz hn hne st' m' h' => ?_, fun y hz => ?_, fun y hz => ?_, fun y hz => by simp [t6 y hz], fun j st' hj e h' => ?_, by simp [t8], ?_⟩
              · rw [upd_ne (ne_of_none e hWt1), upd_ne nW]
                exact s15 _ _ (fbQ b o nF nW e)
              · rw [List.length_append]
                exact r3.upd te3 (fun _ z => nomatch z) (Ne.symm wW)
              · rw [upd_same, List.map_append]
                rfl
              · rcases List.mem_append.mp hz with hz | hz
                · exact List.mem_append_left _ (t1 y hz)
                · exact List.mem_append_right _ hz
              · rcases List.mem_append.mp hz with hz | hz
                · exact List.mem_append_left _ (t3 y hz (fun c => hn (List.mem_append_left _ c)) hne st' m' h')
                · exact absurd (List.mem_append_right _ hz) hn
              · rcases List.mem_append.mp hz with hz | hz
                · exact t4 y hz
                · rw [List.mem_singleton.mp hz]
                  exact .inr ((hwc x (by simp)).trans (Con.step hmS hh))
              · rcases List.mem_append.mp hz with hz | hz
                · exact t5 y hz
                · rw [List.mem_singleton.mp hz]
                  exact (hwc x (by simp)).trans (Con.step hmS hh)
              · rcases Nat.lt_succ_iff_lt_or_eq.mp hj with h | rfl
                · exact List.mem_append_left _ (t7 j st' h e h')
                · rw [es] at e
                  cases e
                  simp
              · have o1 : (fs2 ++ [st.oth x]).length = fs2.length + 1 := by simp
                have o2 : (ws2 ++ [st.oth x]).length = ws2.length + 1 := by simp
                omega
          · rintro σ H9 ⟨fs2, ws2, f2, u6, u7, u8, tb, tf, tw, tm, te, rfl, t1, t2, t3, t4, t5, t6, t7, t8, t9⟩
            refine ⟨_, by omega, fs2, ws2, f2, _, _, _, _, tb, tf, tw, tm, te, rfl, t1, t2, fun y hy hn st m hh => ?_, t4, t5, t6, rfl, by omega⟩
            by_cases c : y = x
            · subst c
              obtain ⟨j, hj⟩ := List.getElem?_of_mem m
              exact t7 j st (by rw [hs.len]; exact (List.getElem?_eq_some_iff.mp hj).1) hj hh
            · exact t3 y hy hn c st m hh
    · rintro σ H2 ⟨fs, f, u3, u4, u5, u6, u7, u8, hb, hf, hwy, hm, hcl, hin1, hin2, rfl⟩
      have hlen : (ts.map V.ref).length = Ps.length := by rw [List.length_map]; exact Paired.length hts
      rw [hlen, List.take_of_length_le (Nat.le_refl _)] at hin2
      exact ⟨_, rfl, _, rfl, by show 2 ≤ sizeLine; decide, fun t2 ht2 => k t2 F _ fs f _ ((sm _ hb).trans (same_upd ht2)) upd_same (hf.same (same_upd ht2)) ⟨hm, fun x x0 x1 => hin2 x (hP.cover x x0 x1)⟩⟩
end
end K32
end

section
set_option Elab.async false
set_option linter.all false
set_option maxRecDepth 100000
set_option maxHeartbeats 4000000
/-! K32ZC: does a web fit. -/
namespace K32
open PySem PySem.Spec PyProof.Rows L2
/-- scales that are right if any are -/
theorem ScalesOf.right {n : Int} {S : List Stall} {fs : List Int} {f : Int → Rat} (h : ScalesOf n S fs f) (g : Good n S) : (∀ st ∈ S, FitS f st) ↔ Fits S := by
  constructor
  · exact fun k => ⟨f, h.m.pos, k⟩
  · rintro ⟨s, fit⟩ st m
    have gs := g st m
    have e1 := h.m.rat st.one (h.all _ gs.a0 gs.a1) st.other (h.all _ gs.b0 gs.b1) ((cl_con S st.one st m).mp (Con.refl _ _)) s fit
    have e2 : s st.one * st.here = s st.other * st.root := fit.2 st m
    refine rat_cancel (fit.1 st.other) ?_
    have e3 : f st.one * st.here * s st.other = (f st.one * s st.other) * st.here := by grind
    have e4 : f st.other * st.root * s st.other = f st.other * (s st.other * st.root) := by grind
    rw [e3, e1, e4, ← e2]
    grind
section
variable {P : Program} {w : World} {K : PySem.W.Frag} {mg : Str → Option Value} {base : Heap} {C Cw : Addr}

abbrev st_uneven_stall : Stmt := topS 29
theorem sc_uneven_stall : FnScope ["web", "found", "index", "stall"] ["web", "found"] (defScope st_uneven_stall) := ⟨rfl, rfl, rfl, by decide +kernel, rfl, by decide +kernel, by decide +kernel⟩
def spUneven (K : PySem.W.Frag) (C Cw : Addr) : Sp := fun vs H Q _ => ∃ (v : V) (F : Addr) (n : Int) (S : List Stall) (fs : List Int) (f : Int → Rat), vs = [v, .ref F] ∧ WebA K Cw H v n S ∧ GoodW n S ∧ FoundH C H F fs f ∧ ScalesOf n S fs f ∧
  ∀ u H', Same H H' → ((u = .non ∧ ∀ st ∈ S, FitS f st) ∨ ∃ i, u = .int i ∧ ∃ st ∈ S, ¬ FitS f st) → Q u H'
theorem ok_uneven_stall (D : Def K mg "uneven_stall" st_uneven_stall ["web", "found"]) (T : Txt K mg C Cw) (c_next_scale : Cal P w K mg base "next_scale" 6 ["stall", "ware", "scale"] (spNext K C)) (m_eq : MCal P w K mg base C "__eq__" 1 ["self", "other"] (spEqE C)) :
    Cal P w K mg base "uneven_stall" 7 ["web", "found"] (spUneven K C Cw) := by
  refine D.ok sc_uneven_stall (fun vs H Q E h => ?_) (fun f cdv A outer s H vs Q E hr h => ?_)
  · obtain ⟨v, F, n, S, fs, f, rfl, _⟩ := h
    rfl
  · obtain ⟨v, F, n, S, fs, f, rfl, hw, g, hf, hS, k⟩ := h
    refine ⟨_, (pss_cons (ps_for PassesOwn.never rfl (pi_enumT (by rfl) T.z_enumerate (pa_cons (pe_fld (pv 0) rfl) pa_nil)) (pg_tup (n := 2) rfl (pgs_cons (pg_name (i := 2) sc_uneven_stall.nd rfl (Or.inl rfl)) (pgs_cons (pg_name (i := 3) sc_uneven_stall.nd rfl (Or.inl rfl)) pgs_nil))) (pss_one (ps_if (pt_cmpR (op_neIns m_eq (hr.mono (by decide)) T.neE T.obE) (pe_cal c_next_scale (hr.mono (by decide)) (by rfl) (pa_cons (pv 3) (pa_cons (pe_ix ix_tup (pv 3) pe_int (fun _ _ => rfl)) (pa_cons (pe_dget (hu_of hr) (pv 1) (pe_ix ix_tup (pv 3) pe_int (fun _ _ => rfl)) (fun _ _ => rfl)) pa_nil)))) (pe_dget (hu_of hr) (pv 1) (pe_ix ix_tup (pv 3) pe_int (fun _ _ => rfl)) (fun _ _ => rfl)) (nomark _)) (pss_one (ps_ret (pv 2))) pss_nil)))
        (pss_one (ps_ret pe_non))), ?_⟩
    have g1 := g.n1
    have g8 := g.n8
    have glen := g.len
    obtain ⟨a, dx, t, xs, rfl, ha, ht, hs⟩ := hw
    have hfl := nodup_len hS.m.nd hS.m.inn
    refine ⟨_, rfl, a, Cw, dx, _, _, rfl, ha, T.clW, T.nSta, webF_stalls n t, t, _, rfl, ht, ?_⟩
    refine for_it (walk_enumT (K := K) (xs := xs)) (fun q σ H' => ∃ u2 u3, Same H H' ∧ (∀ st ∈ S.take q, FitS f st) ∧ σ = [some (.ref a), some (.ref F), u2, u3]) ⟨_, _, fun _ _ e => e, by simp, rfl⟩ (fun i σ H' _ h => ?_) ?_ ?_
    · obtain ⟨_, _, h1, _⟩ := h
      exact ht.ext h1
    · rintro q pr σ H1 H2 hi ⟨u2, u3, s1, hfit, rfl⟩ ⟨T0, x1, x2, rfl, hT0, rfl, e1, e2⟩
      cases e1
      obtain ⟨st, es, hst0⟩ := hs.get e2
      have hmS := List.mem_of_getElem? es
      have gs := g.good st hmS
      have bs := g.bd st hmS
      refine ⟨T0, _, rfl, SqT.of upd_same, rfl, _, _, rfl, _, _, rfl, rfl, ?_⟩
      have s2 := s1.trans (same_upd (o := .tup [.int (q : Nat), x2]) hT0)
      have hst := hst0.same s2
      obtain ⟨sb, z1, z2, z3, rfl, hsb, _, _, _⟩ := id hst
      have hf2 := hf.same s2
      generalize upd H1 T0 (.tup [.int (q : Nat), .ref sb]) = H2 at *
      obtain ⟨xv, dgx, ex⟩ := hf2.get (hS.all _ gs.a0 gs.a1)
      refine ⟨_, rfl, _, rfl, sb, _, 0, .int st.one, rfl, rfl, hsb, atI_nat (j := 0) rfl, _, rfl, _, rfl, sb, _, 0, .int st.one, rfl, rfl, hsb, atI_nat (j := 0) rfl, F, xv, rfl, dgx, ?_⟩
      refine ⟨.ref sb, xv, st.one, st, f st.one, 1 + 24 * fs.length, rfl, hst, bs, gs.r, ex, hS.m.bd _ (hS.all _ gs.a0 gs.a1), by omega, by omega, fun v3 H3 s3 e3 => ?_⟩
      obtain ⟨yv, dgy, ey⟩ := (hf2.same s3).get (hS.all _ gs.b0 gs.b1)
      refine ⟨_, rfl, _, rfl, sb, _, 1, .int st.other, rfl, rfl, hsb.ext s3, atI_nat (j := 1) rfl, F, yv, rfl, dgy, ?_⟩
      obtain ⟨a3, dx3, rfl, g3⟩ := e3
      obtain ⟨a4, dx4, rfl, g4⟩ := ey
      refine ⟨a3, a4, dx3, dx4, _, _, rfl, rfl, g3, g4, _, _, _, _, rfl, ⟨_, _, rfl, g3⟩, ⟨_, _, rfl, g4⟩, _, rfl, _, rfl, ?_⟩
      have r0 := gs.r
      have hold : st.hold st.one = st.here := by unfold Stall.hold; rw [if_pos rfl]
      have e3 : f st.one * st.here / st.root * st.root = f st.one * st.here := Rat.div_mul_cancel (by intro z; rw [z] at r0; exact absurd r0 (by decide +kernel))
      have iff1 : f st.one * st.hold st.one / st.root = f st.other ↔ FitS f st := by
        rw [hold]
        constructor
        · intro e
          rw [e] at e3
          exact e3.symm
        · intro e
          refine rat_cancel r0 ?_
          rw [e3]
          exact e
      by_cases c : FitS f st
      · refine iteN (by simp [iff1.mpr c]) ⟨_, _, s2.trans s3, fun st' m' => ?_, rfl⟩
        rw [take_snoc es] at m'
        rcases List.mem_append.mp m' with m' | m'
        · exact hfit st' m'
        · rw [List.mem_singleton.mp m']
          exact c
      · refine iteY (by rw [decide_eq_false (fun z => c (iff1.mp z))]; rfl) ⟨_, rfl, k _ _ (s2.trans s3) (.inr ⟨_, rfl, st, hmS, c⟩)⟩
    · rintro σ H1 ⟨u2, u3, s1, hfit, rfl⟩
      rw [hs.len, List.take_of_length_le (Nat.le_refl _)] at hfit
      exact k _ _ s1 (.inl ⟨rfl, hfit⟩)

abbrev st_fit_exact : Stmt := topS 30
theorem sc_fit_exact : FnScope ["web", "found", "ways", "ware"] ["web"] (defScope st_fit_exact) := ⟨rfl, rfl, rfl, by decide +kernel, rfl, by decide +kernel, by decide +kernel⟩
def spFitE (K : PySem.W.Frag) (C Cw : Addr) : Sp := fun vs H Q _ => ∃ (v : V) (n : Int) (S : List Stall), vs = [v] ∧ WebA K Cw H v n S ∧ GoodW n S ∧
  ∀ u H', Same H H' → ((u = .non ∧ ¬ Fits S) ∨ ∃ l xs, u = .ref l ∧ Fits S ∧ H' l = some (.lst xs) ∧ xs.length ≤ 8 ∧ ∀ x ∈ xs, ∃ q, ExA C H' x q) → Q u H'
theorem ok_fit_exact (D : Def K mg "fit_exact" st_fit_exact ["web"]) (T : Txt K mg C Cw) (c_scales_and_ways : Cal P w K mg base "scales_and_ways" 8 ["web"] (spScales K C Cw)) (c_uneven_stall : Cal P w K mg base "uneven_stall" 7 ["web", "found"] (spUneven K C Cw)) :
    Cal P w K mg base "fit_exact" 9 ["web"] (spFitE K C Cw) := by
  refine D.ok sc_fit_exact (fun vs H Q E h => ?_) (fun f cdv A outer s H vs Q E hr h => ?_)
  · obtain ⟨v, n, S, rfl, _⟩ := h
    rfl
  · obtain ⟨v, n, S, rfl, hw, g, k⟩ := h
    refine ⟨_, (pss_cons (ps_asg (pe_cal c_scales_and_ways (hr.mono (by decide)) (by rfl) (pa_cons (pv 0) pa_nil)) (pg_tup (n := 2) rfl (pgs_cons (pg_name (i := 1) sc_fit_exact.nd rfl (Or.inr rfl)) (pgs_cons (pg_name (i := 2) sc_fit_exact.nd rfl (Or.inl rfl)) pgs_nil))))
        (pss_cons (ps_if (pt_cmpR op_notN (pe_cal c_uneven_stall (hr.mono (by decide)) (by rfl) (pa_cons (pv 0) (pa_cons (pv 1) pa_nil))) pe_non (nomark _)) (pss_one (ps_ret pe_non)) pss_nil)
        (pss_one (ps_ret (pe_lc (own := [("ware", 3)]) (by rfl) sc_fit_exact.nd (pi_range1 (by rfl) T.z_range (pa_cons (pe_fld (pv 0) rfl) pa_nil)) (blkOk_by (own := [("ware", 3)]) (by kernel_rfl)) (fun _ _ _ _ _ => (pg_name (i := 3) sc_fit_exact.nd rfl (Or.inl rfl))) (fun _ _ _ _ _ => pts_nil) (fun _ _ _ _ _ => (pe_dget (hu_of hr) (pv 1) (pv 3) (fun _ _ => rfl)))))))), ?_⟩
    have g1 := g.n1
    have g8 := g.n8
    refine ⟨_, rfl, v, n, S, rfl, hw, g, fun t F u fs f H1 s1 ht hf hS => ?_⟩
    refine ⟨t, _, rfl, SqT.of ht, rfl, _, _, rfl, _, _, rfl, rfl, ?_⟩
    refine ⟨_, rfl, _, rfl, v, F, n, S, fs, f, rfl, hw.same s1, g, hf, hS, fun y H2 s2 hy => ?_⟩
    have s12 := s1.trans s2
    rcases hy with ⟨rfl, hy⟩ | ⟨i, rfl, st, hm, hy⟩
    · have hfit := (hS.right g.good).mp hy
      refine ⟨rfl, _, rfl, iteF ?_⟩
      have hf2 := hf.same s2
      obtain ⟨a, dx, t, xs, rfl, ha, ht, hs⟩ := hw
      refine ⟨_, rfl, a, Cw, dx, _, _, rfl, s12 _ _ ha, T.clW, T.nWar, webF_wares n t, n, rfl, by omega, by omega, fun D hD => ?_⟩
      refine lc_range (Pv := fun i H' => Same H2 H' ∧ ∃ acc : List V, H' D = some (.lst acc) ∧ acc.length = i ∧ ∀ x ∈ acc, ∃ q, ExA C H2 x q) ⟨same_upd hD, [], upd_same, rfl, by simp⟩ ?_ ?_
      · rintro i H3 hi ⟨s3, acc, h1, h2, h3⟩
        obtain ⟨xv, dgx, ex⟩ := hf2.get (hS.all (0 + (i : Nat)) (by omega) (by omega))
        obtain ⟨xv', dgx', ex'⟩ := (hf2.same s3).get (hS.all (0 + (i : Nat)) (by omega) (by omega))
        obtain ⟨kvs, q1, q2, q3⟩ := hf2
        refine ⟨rfl, yes_if ⟨_, rfl, _, rfl, F, xv, rfl, ?_, acc, h1, by rw [h2]; exact small1000 (by omega), Same.mut s3 hD, acc ++ [xv], upd_same, by simp [h2], fun x hx => ?_⟩⟩
        · rcases dgx with ⟨kv, kk, e, ey, l⟩ | ⟨kv, kk, b, e, ey, eb, l⟩
          · refine .inl ⟨kv, kk, ?_, ey, l⟩
            rcases e with e | ⟨o, e⟩
            · exact .inl (s3 _ _ e)
            · exact .inr ⟨o, s3 _ _ e⟩
          · exact nomatch ey
        · rcases List.mem_append.mp hx with hx | hx
          · exact h3 x hx
          · rw [List.mem_singleton.mp hx]
            exact ⟨_, ex⟩
      · rintro H3 ⟨s3, acc, h1, h2, h3⟩
        exact k _ _ (s12.trans s3) (.inr ⟨D, acc, rfl, hfit, h1, by omega, fun x hx => by
          obtain ⟨q, e⟩ := h3 x hx
          exact ⟨q, e.same s3⟩⟩)
    · have hno : ¬ Fits S := fun z => hy ((hS.right g.good).mpr z st hm)
      exact ⟨rfl, _, rfl, iteT (k _ _ s12 (.inl ⟨rfl, hno⟩))⟩

abbrev st_fit : Stmt := topS 31
theorem sc_fit : FnScope ["web", "found", "scale"] ["web"] (defScope st_fit) := ⟨rfl, rfl, rfl, by decide +kernel, rfl, by decide +kernel, by decide +kernel⟩
def spFit (K : PySem.W.Frag) (Cw : Addr) : Sp := fun vs H Q _ => ∃ (v : V) (n : Int) (S : List Stall), vs = [v] ∧ WebA K Cw H v n S ∧ GoodW n S ∧
  ∀ u H', Same H H' → ((u = .non ∧ ¬ Fits S) ∨ ∃ l, u = .ref l ∧ Fits S) → Q u H'
theorem ok_fit (D : Def K mg "fit" st_fit ["web"]) (T : Txt K mg C Cw) (c_fit_exact : Cal P w K mg base "fit_exact" 9 ["web"] (spFitE K C Cw)) (m_pair : MCal P w K mg base C "pair" 1 ["self"] (spPair K C)) :
    Cal P w K mg base "fit" 10 ["web"] (spFit K Cw) := by
  refine D.ok sc_fit (fun vs H Q E h => ?_) (fun f cdv A outer s H vs Q E hr h => ?_)
  · obtain ⟨v, n, S, rfl, _⟩ := h
    rfl
  · obtain ⟨v, n, S, rfl, hw, g, k⟩ := h
    refine ⟨_, (pss_cons (ps_set (i := 1) sc_fit.nd rfl (Or.inl rfl) (pe_cal c_fit_exact (hr.mono (by decide)) (by rfl) (pa_cons (pv 0) pa_nil)))
        (pss_one (ps_ret (pe_ifExp (pt_cmpR op_isN (pv 1) pe_non (nomark _)) pe_non (pe_callTy call_tuple_of (by rfl) T.z_tuple (by decide +kernel) (pa_cons (pe_lc (own := [("scale", 2)]) (by rfl) sc_fit.nd (pi_list (pv 1)) (blkOk_by (own := [("scale", 2)]) (by kernel_rfl)) (fun _ _ _ _ _ => (pg_name (i := 2) sc_fit.nd rfl (Or.inl rfl))) (fun _ _ _ _ _ => pts_nil) (fun _ _ _ _ _ => (pe_mcal0 m_pair (hr.mono (by decide)) T.clE (pv 2)))) pa_nil)))))), ?_⟩
    refine ⟨_, rfl, v, n, S, rfl, hw, g, fun y H1 s1 hy => ?_⟩
    rcases hy with ⟨rfl, hno⟩ | ⟨l, xs, rfl, hfit, hl, hz, hx⟩
    · exact ⟨_, rfl, rfl, _, rfl, iteT (k _ _ s1 (.inl ⟨rfl, hno⟩))⟩
    · refine ⟨_, rfl, rfl, _, rfl, iteF ?_⟩
      refine ⟨_, rfl, l, rfl, ⟨_, SqL.of hl⟩, fun D hD => ?_⟩
      refine lc_list (K := K) (xs := xs) (fun i H' => Same H1 H' ∧ ∃ acc : List V, H' D = some (.lst acc) ∧ acc.length = i) ⟨same_upd hD, [], upd_same, rfl⟩ (fun i H' _ h => SqL.of (h.1 _ _ hl)) ?_ ?_
      · rintro i x H2 hi ⟨s2, acc, h1, h2⟩
        obtain ⟨q, e⟩ := hx x (List.mem_of_getElem? hi)
        have e2 := e.same s2
        obtain ⟨a, dx, rfl, ha⟩ := id e2
        have hi' := (List.getElem?_eq_some_iff.mp hi).1
        exact ⟨rfl, yes_if ⟨_, rfl, a, dx, _, rfl, ha, exF_pair _, _, q, rfl, e2, fun v H3 s3 _ => ⟨acc, s3 _ _ h1, by rw [h2]; exact small1000 (by omega), Same.mut (s2.trans s3) hD, _, upd_same, by simp [h2]⟩⟩⟩
      · rintro H2 ⟨s2, acc, h1, h2⟩
        exact ⟨D, acc, rfl, .inl ⟨SqL.of h1, fun t ht => k _ _ ((s1.trans s2).trans (same_upd ht)) (.inr ⟨t, rfl, hfit⟩)⟩⟩
end
end K32
end

section
set_option Elab.async false
set_option linter.all false
set_option maxRecDepth 100000
set_option maxHeartbeats 4000000
/-! K32ZD: t[::-1] of a tuple; ways as values. -/
namespace K32
open PySem PySem.Spec PyProof.Rows L2
/-! ### t[::-1] of a tuple -/
section
variable {prog : Program} {w : World} {A : Around} {E : Value → Shared → Prop} {s : Shared}
theorem back_places (n : Nat) : Builtin.Slice.slicePlaces ((n : Int) - 1) (-1) (-1) = n := by
  unfold Builtin.Slice.slicePlaces
  rw [if_neg (show ¬ ((-1 : Int) > 0) by decide)]
  by_cases h : ((n : Int) - 1) > -1
  · rw [if_pos h, show (-(-1) : Int) = 1 by decide, Int.ediv_one]
    omega
  · rw [if_neg h]
    omega
theorem back_adjust (n : Nat) : Builtin.Slice.sliceAdjust none none (-1) (n : Int) = ((n : Int) - 1, -1) := by
  unfold Builtin.Slice.sliceAdjust
  simp only [show ((-1 : Int) < 0) from by decide, if_true]
theorem fm_congr {α β : Type} {f g : α → Option β} : ∀ {l : List α}, (∀ x ∈ l, f x = g x) → l.filterMap f = l.filterMap g
  | [], _ => rfl
  | a :: l, h => by rw [List.filterMap_cons, List.filterMap_cons, h a List.mem_cons_self, fm_congr fun x m => h x (List.mem_cons_of_mem _ m)]
theorem back_pick (xs : Array Value) : ((List.range xs.size).filterMap fun (k : Nat) => xs[((xs.size : Int) - 1 + (k : Int) * (-1)).toNat]?).toArray = xs.toList.reverse.toArray := by
  have e : (List.range xs.size).filterMap (fun (k : Nat) => xs[((xs.size : Int) - 1 + (k : Int) * (-1)).toNat]?) = ((List.range xs.size).map fun k => xs.size - 1 - k).filterMap (xs[·]?) := by
    rw [List.filterMap_map]
    refine fm_congr fun k hk => ?_
    have := List.mem_range.mp hk
    show xs[((xs.size : Int) - 1 + (k : Int) * (-1)).toNat]? = xs[xs.size - 1 - k]?
    rw [show ((xs.size : Int) - 1 + (k : Int) * (-1)).toNat = xs.size - 1 - k by omega]
  rw [e, PySem.W.krv_range, List.filterMap_reverse, PySem.W.krv_all]
theorem back_applied {sl : Addr} {vs : Value} {n : Nat} {Q : Int × Int × Nat → Shared → Prop} (hs : s.heap.IsSliceOf sl .none .none vs) (ps : IsPart vs (some (-1))) (h : Q ((n : Int) - 1, -1, n) s) :
    wpAny (model prog w) A (Builtin.Slice.sliceApplied (.ref sl) (pure (n : Int))) Q E s := by
  obtain ⟨os, hos, hcs, hds⟩ := id hs
  unfold Builtin.Slice.sliceApplied Builtin.Slice.sliceFields
  refine wpAny_bind (wpAny_bind (wpAny_field hos hds (x := .none) rfl (wpAny_bind (wpAny_field hos hds (x := .none) rfl (wpAny_bind (wpAny_field hos hds (x := vs) rfl (wpAny_pure ?_)))))))
  refine wpAny_bind (HT.slicePart_ ps ?_)
  show wpAny _ _ (if ((-1 : Int) == 0) = true then _ else _) _ _ s
  rw [if_neg (by decide)]
  refine wpAny_bind (HT.slicePart_ .none (wpAny_bind (HT.slicePart_ .none (wpAny_bind (wpAny_pure ?_)))))
  show wpAny _ _ (match Builtin.Slice.sliceAdjust none none (-1) (n : Int) with | (lo, hi) => pure (lo, (-1 : Int), Builtin.Slice.slicePlaces lo hi (-1))) _ _ s
  rw [back_adjust]
  show wpAny _ _ (pure ((n : Int) - 1, (-1 : Int), Builtin.Slice.slicePlaces ((n : Int) - 1) (-1) (-1))) _ _ s
  rw [back_places]
  exact wpAny_pure h
theorem back_item {t sl : Addr} {items : Array Value} {vs : Value} {Q : Value → Shared → Prop} (ht : IsTup s.heap t items) (hs : s.heap.IsSliceOf sl .none .none vs) (ps : IsPart vs (some (-1)))
    (h : Q (.ref s.heap.objs.size) { s with heap := s.heap.push { cls := .type "tuple", data := .seq items.toList.reverse.toArray } }) (hsz : items.size ≤ sizeLine) :
    wpAny (model prog w) A (getItem (.ref t) (.ref sl)) Q E s := by
  have htake : sizeOk (.seq items.toList.reverse.toArray) := by
    show items.toList.reverse.toArray.size ≤ sizeLine
    rw [List.size_toArray, List.length_reverse, Array.length_toList]
    exact hsz
  obtain ⟨os, hos, hcs, hds⟩ := id hs
  have hTs : s.TypeIs (.ref sl) "slice" := ⟨os, hos, hcs⟩
  unfold getItem
  try with_reducible refine wpAny_holding ?_
  first | refine wpAny_bind (wpAny_pure ?_) | skip
  refine wpAny_bind (wpAny_sequenceKey ht.typeIs (by decide) ?_)
  refine wpAny_bind (wpAny_callSpecial?_slot (name := Str.ofString "__getitem__") ht.typeIs PyProof.Rows.slot_tuple_getitem
    (wpAny_call_entry PyProof.Rows.slot_tuple_getitem ht.typeIs entry_tuple_getitem ?_ (args_tuple_getitem _ _)))
  show wpAny _ _ (Builtin.Tuple.tupleItemsOf (.ref t) >>= _) _ _ s
  refine wpAny_bind (tupleItemsOf_ ht ?_)
  refine wpAny_bind (wpAny_typeOf hTs ?_)
  rw [if_pos (by decide)]
  refine wpAny_bind (back_applied hs ps ?_)
  have hno : ¬ ((((items.size : Int) - 1) == 0 && (-1 : Int) == 1 && items.size == items.size) = true) := by
    rw [show ((-1 : Int) == 1) = false by decide, Bool.and_false, Bool.false_and]
    decide
  show wpAny _ _ (if (((items.size : Int) - 1) == 0 && (-1 : Int) == 1 && items.size == items.size) = true then _ else _) _ _ s
  rw [if_neg hno, back_pick]
  first
    | exact wpAny_bind (m := Builtin.Tuple.tupleExact _) (wpAny_newObj_type (wpAny_pure ⟨_, rfl, wpAny_pure h⟩) htake)
    | exact wpAny_bind (m := Builtin.Tuple.tupleExact _) (wpAny_newObj_type (wpAny_bind (wpAny_pure (wpAny_pure ⟨_, rfl, wpAny_pure h⟩))) htake)
    | exact wpAny_bind (wpAny_bind (m := Builtin.Tuple.tupleExact _) (wpAny_newObj_type (wpAny_pure (wpAny_pure ⟨_, rfl, wpAny_pure h⟩)) htake))
    | exact wpAny_bind (wpAny_bind (m := Builtin.Tuple.tupleExact _) (wpAny_newObj_type (wpAny_pure ⟨_, rfl, wpAny_pure h⟩) htake))
end
section
variable {X : Cx}
def tRevT (K : PySem.W.Frag) (te : TE) : TE := fun σ H Q => te σ H fun x H1 => ∃ a xs, x = .ref a ∧ SqT K H1 a xs ∧ ∀ p, H1 p = none → Q (.ref p) (upd H1 p (.tup xs.reverse))
theorem pe_revT {e : Expr} {te : TE} {k : Nat} {p1 p2 p3 pos : Pos} (he : PE X e te) : PE X (.Subscript e (.Slice none none (some (.UnaryOp .USub (.Constant (.int 1) k p1) p2)) p3) pos) (tRevT X.K te) := by
  refine ⟨fun pins s σ H Q I h => ?_⟩
  refine Subscript_ (thn (he.run pins s σ H _ I h) fun v s1 ⟨x, H1, I1, r1, q1⟩ => ?_)
  obtain ⟨a, xs, ex, hx, q⟩ := q1
  subst ex
  cases r1
  have hst : PO X (some (.UnaryOp .USub (.Constant (.int 1) k p1) p2)) (tPart (tUn (rU fun i => .int (-i)) (tC (.int 1)))) := po_some (pe_un un_neg pe_int)
  have hno : ∀ {s : Shared} {H : Hp}, Inv X pins σ H s → wpAny (model X.prog X.w) X.A (evalPart none X.env) (fun u s' => u = .none ∧ Inv X pins σ H s') X.xe s := fun I =>
    thn (po_none.run pins _ σ _ (fun o H2 => o = none ∧ H2 = _) I ⟨rfl, rfl⟩) fun vl s2 ⟨l, H2, I2, pl, el, e2⟩ => by
      subst el e2
      cases pl
      exact ⟨rfl, I2⟩
  refine wpAny_Slice (thn (hno I1) fun vl s2 ⟨el, I2⟩ => thn (hno I2) fun vu s3 ⟨eu, I3⟩ => ?_)
  subst el eu
  refine thn (hst.run pins s3 σ H1 (fun o H4 => o = some (-1) ∧ H4 = H1) I3 ⟨1, rfl, -1, rfl, rfl, rfl⟩) fun vs s4 ⟨o, H4, I4, ps, eo, e4⟩ => ?_
  subst eo e4
  have I5 : Inv X pins σ H4 { s4 with heap := s4.heap.push { cls := .type "slice", data := .fields #[.none, .none, vs] } } := I4.kept (t' := s4.toks) fun b ob q => Heap.get?_push_of_some _ q
  obtain ⟨its, r, ht, hz⟩ := I5.tuple hx
  have hlen := r.length
  show wpAny (model X.prog X.w) X.A (subscriptTail e (.Slice none none (some (.UnaryOp .USub (.Constant (.int 1) k p1) p2)) p3) (.ref a) (.ref s4.heap.objs.size)) (EP X pins σ Q) X.xe { s4 with heap := s4.heap.push { cls := .type "slice", data := .fields #[.none, .none, vs] } }
  refine tail_any (ops := [.ref a, .ref s4.heap.objs.size]) ht.typeIs (PyProof.Rows.slot_tuple_getitem.lookup) ?_ (by with_unfolding_all rfl)
  refine back_item ht (Heap.IsSliceOf.new _ .none .none vs) ps ?_ (by rw [List.size_toArray]; omega)
  refine ⟨.ref _, _, I5.laid (t' := s4.toks) (o := .tup xs.reverse) (fun b ob q => Heap.get?_push_of_some _ q) (Nat.le_refl _) ?_, rfl, q _ (I5.hok.fresh (Nat.le_refl _))⟩
  exact ⟨by rw [List.length_reverse]; exact hz, _, r.reverse, IsTup.new _ _⟩
end
/-! ### rules within a comprehension -/
section
variable {X : Cx} {K : PySem.W.Frag}
theorem ixT_in (h : X.K = K) : IxR X (rIxT K) := by
  subst h
  exact ix_tup
theorem ixL_in (h : X.K = K) : IxR X (rIxL K) := by
  subst h
  exact ix_list
theorem inSeq_in (h : X.K = K) : OpR X (compareOp .In) (rIn K false) := by
  subst h
  exact op_in_seq
theorem notIn_in (h : X.K = K) : OpR X (compareOp .NotIn) (rIn K true) := by
  subst h
  exact op_notIn_seq
theorem len_in (h : X.K = K) : CallR X (.builtin "len") (fun xs H Q => ∃ p ys, xs = [.ref p] ∧ (SqL K H p ys ∨ SqT K H p ys) ∧ Q (.int ys.length) H) := by
  subst h
  exact call_len_seq
theorem catA_in (h : X.K = K) : OpR X (binaryOp .Add) (rCatA K) := by
  subst h
  exact op_catA
theorem slT_in (h : X.K = K) : SlR X (rSlT K) := by
  subst h
  exact sl_tup
theorem slTA_in (h : X.K = K) : SlR X (rSlA K) := by
  subst h
  exact sl_tupA
theorem all_in (h : X.K = K) (hc : X.calm = true) : CallR X (.builtin "all") (rAll K) := by
  subst h
  exact cr_all hc
theorem any_in (h : X.K = K) (hc : X.calm = true) : CallR X (.builtin "any") (rAny K) := by
  subst h
  exact cr_any hc
theorem fld_in {e : Expr} {ta : TE} {f : Str} {pos : Pos} (h : X.K = K) (he : PE X e ta) (hb : attributeBase e f X.env (eval e X.env) = eval e X.env) : PE X (.Attribute e f pos) (tFld K ta f) := by
  subst h
  exact pe_fld he hb
theorem list_in {tg l : Expr} {tl : TE} (h : X.K = K) (hl : PE X l tl) : PI X tg l (iList K tl) := by
  subst h
  exact pi_list hl
theorem tup_in {tg l : Expr} {tl : TE} (h : X.K = K) (hl : PE X l tl) : PI X tg l (iTup K tl) := by
  subst h
  exact pi_tup hl
theorem tupG_in {es : List Expr} {k : Nat} {t : TGs} {n : Nat} {pos : Pos} (h : X.K = K) (hc : X.calm = true) (hg : PGs X es t)
    (hn : (assignEach es X.env).length = n := by rfl) (hst : (assignEach es X.env).findIdx? (·.1) = none := by rfl) : PG X (.Tuple es k pos) (gTup K n t) := by
  subst h
  exact pg_tup hc hg hn hst
end
end K32
end

section
set_option Elab.async false
set_option linter.all false
set_option maxRecDepth 100000
set_option maxHeartbeats 4000000
/-! K32ZE: rings and ways, walked. -/
namespace K32
open PySem PySem.Spec PyProof.Rows L2
/-! ### ways as values -/
def PairA (K : PySem.W.Frag) (H : Hp) (u : V) (p : Int × Int) : Prop := ∃ b, u = .ref b ∧ SqT K H b [.int p.1, .int p.2]
theorem PairA.same {K : PySem.W.Frag} {H H' : Hp} {u : V} {p : Int × Int} (h : PairA K H u p) (e : Same H H') : PairA K H' u p := by
  obtain ⟨b, rfl, h⟩ := h
  exact ⟨b, rfl, h.ext e⟩
theorem PairA.dp {K : PySem.W.Frag} {H : Hp} {u : V} {p : Int × Int} (h : PairA K H u p) : Dp K H u (encP p) := by
  obtain ⟨b, rfl, h⟩ := h
  exact .tup h (.cons (.int _) (.cons (.int _) .nil))
theorem pair_of {K : PySem.W.Frag} {H : Hp} {u : V} {p : Int × Int} (h : Dp K H u (encP p)) : PairA K H u p := by
  unfold encP at h
  cases h with
  | tup h a =>
    cases a with
    | cons a1 a2 =>
      cases a1
      cases a2 with
      | cons b1 b2 =>
        cases b1
        cases b2
        exact ⟨_, rfl, h⟩
def WayA (K : PySem.W.Frag) (H : Hp) (v : V) (r : Way) : Prop := ∃ a vs, v = .ref a ∧ SqT K H a vs ∧ DpAll K H vs (r.map encP)
theorem WayA.same {K : PySem.W.Frag} {H H' : Hp} {v : V} {r : Way} (h : WayA K H v r) (e : Same H H') : WayA K H' v r := by
  obtain ⟨a, vs, rfl, h1, h2⟩ := h
  exact ⟨a, vs, rfl, h1.ext e, dpAll_same e h2⟩
theorem WayA.dp {K : PySem.W.Frag} {H : Hp} {v : V} {r : Way} (h : WayA K H v r) : Dp K H v (encW r) := by
  obtain ⟨a, vs, rfl, h1, h2⟩ := h
  exact .tup h1 h2
theorem way_of {K : PySem.W.Frag} {H : Hp} {v : V} {r : Way} (h : Dp K H v (encW r)) : WayA K H v r := by
  unfold encW at h
  cases h with
  | tup h a => exact ⟨_, _, rfl, h, a⟩
theorem pairs_get {K : PySem.W.Frag} {H : Hp} {vs : List V} {r : Way} {i : Nat} {u : V} (h : DpAll K H vs (r.map encP)) (e : vs[i]? = some u) : ∃ p, r[i]? = some p ∧ PairA K H u p := by
  obtain ⟨d, h1, h2⟩ := dpAll_get' h e
  rw [List.getElem?_map] at h1
  obtain ⟨p, hp, rfl⟩ := Option.map_eq_some_iff.mp h1
  exact ⟨p, hp, pair_of h2⟩
theorem pairs_len {K : PySem.W.Frag} {H : Hp} {vs : List V} {r : Way} (h : DpAll K H vs (r.map encP)) : vs.length = r.length := by
  have := dpAll_len h
  rwa [List.length_map] at this
theorem stA_at {K : PySem.W.Frag} {H : Hp} {xs : List V} {S : List Stall} (hs : StAll K H xs S) {e : Int} {st : Stall} (h : stAt S e = some st) : ∃ v, atI xs e = some v ∧ StA K H v st := by
  obtain ⟨h0, h1, _⟩ := stAt_rng h
  obtain ⟨m, rfl⟩ := Int.eq_ofNat_of_zero_le h0
  rw [stAt_nat] at h
  obtain ⟨v, hv, hst⟩ := hs.get' h
  exact ⟨v, atI_nat hv, hst⟩
theorem cut_from (xs : List V) (k : Nat) : cutV xs (some (k : Int)) none = xs.drop k := by
  unfold cutV
  rw [HT.sIx_nat, HT.sIx_none]
  by_cases h : k ≤ xs.length
  · rw [Nat.min_eq_left h, List.take_of_length_le (by rw [List.length_drop]; exact Nat.le_refl _)]
  · rw [Nat.min_eq_right (by omega), List.drop_of_length_le (Nat.le_refl _), List.drop_of_length_le (by omega), List.take_nil]
theorem cut_to (xs : List V) (k : Nat) : cutV xs none (some (k : Int)) = xs.take k := by
  unfold cutV
  rw [HT.sIx_nat, HT.sIx_none, List.drop_zero, Nat.sub_zero]
  by_cases h : k ≤ xs.length
  · rw [Nat.min_eq_left h]
  · rw [Nat.min_eq_right (by omega), List.take_of_length_le (Nat.le_refl _), List.take_of_length_le (by omega)]
theorem slA_of {K : PySem.W.Frag} {H : Hp} {a : Addr} {xs : List V} {lo hi : Option Int} {Q : VK} (ha : SqT K H a xs) (k : ∀ p H', Same H H' → SqT K H' p (cutV xs lo hi) → Q (.ref p) H') : rSlA K (.ref a) lo hi H Q := by
  refine ⟨a, xs, rfl, ha, fun e => k a H (fun _ _ e => e) ?_, fun _ p hp => k p _ (same_upd hp) (SqT.of upd_same)⟩
  unfold cutV
  rw [e.1, e.2, List.drop_zero, Nat.sub_zero, List.take_of_length_le (Nat.le_refl _)]
  exact ha
theorem catQ_of {K : PySem.W.Frag} {H : Hp} {a b : Addr} {xs ys : List V} {Q : VK} (ha : SqT K H a xs) (hb : SqT K H b ys) (hz : xs.length + ys.length ≤ 900) (k : ∀ p H', Same H H' → SqT K H' p (xs ++ ys) → Q (.ref p) H') : rCatA K (.ref a) (.ref b) H Q := by
  refine ⟨a, b, xs, ys, rfl, rfl, ha, hb, by rw [sizeLine_eq]; omega, fun z => ?_, fun _ z => ?_, fun _ _ p hp => k p _ (same_upd hp) (SqT.of upd_same)⟩
  · subst z
    exact k b H (fun _ _ e => e) hb
  · subst z
    refine k a H (fun _ _ e => e) ?_
    rw [List.append_nil]
    exact ha
theorem Ring.rot {S : List Stall} {r : Way} (h : Ring S r) : (r.drop 1 ++ r.take 1).map (·.2) = (r.map (turn1 S)).map (·.2) := by
  obtain ⟨ne, nd, w, cl⟩ := h
  match r, ne, cl with
  | p :: t, _, cl =>
    have e := path_to cl
    have e2 := path_head cl
    rw [List.map_cons (f := fun x : Int × Int => x.2) (l := t)] at e
    have e3 := (List.cons.inj e).2
    rw [e3]
    simp [e2]
theorem Ring.at {S : List Stall} {r : Way} (h : Ring S r) {p : Int × Int} (m : p ∈ r) : ∃ st, stAt S p.1 = some st ∧ st.Has p.2 := by
  obtain ⟨w, cl⟩ := h.cl
  exact path_mem cl m
theorem has_in {n : Int} {st : Stall} (g : GoodS n st) {x : Int} (h : st.Has x) : 0 ≤ x ∧ x < n := by
  rcases h with rfl | rfl
  · exact ⟨g.a0, g.a1⟩
  · exact ⟨g.b0, g.b1⟩
theorem Ring.len {S : List Stall} {r : Way} (h : Ring S r) : r.length ≤ S.length := by
  have e := nodup_len (n := S.length) h.nd fun x hx => by
    obtain ⟨p, hp, rfl⟩ := List.mem_map.mp hx
    obtain ⟨st, hst, _⟩ := h.at hp
    exact ⟨(stAt_rng hst).1, (stAt_rng hst).2.1⟩
  rw [List.length_map] at e
  omega
theorem noPart_of {σ : L2.St} {H : Hp} {Q : Option Int → Hp → Prop} (h : Q none H) : tNoPart σ H Q := h
theorem partC_of {σ : L2.St} {H : Hp} {i : Int} {Q : Option Int → Hp → Prop} (h : Q (some i) H) : tPart (tC (.int i)) σ H Q := ⟨i, rfl, h⟩
theorem partV_of {σ : L2.St} {H : Hp} {j : Nat} {i : Int} {Q : Option Int → Hp → Prop} (hv : σ[j]? = some (some (.int i))) (h : Q (some i) H) : tPart (tVar j) σ H Q := ⟨_, hv, i, rfl, h⟩
theorem SGet {K : PySem.W.Frag} {H : Hp} {xs : List V} {S : List Stall} (hs : StAll K H xs S) {e : Int} {st : Stall} (h : stAt S e = some st) : ∃ v, atI xs e = some v ∧ StA K H v st := stA_at hs h
section
variable {P : Program} {w : World} {K : PySem.W.Frag} {mg : Str → Option Value} {base : Heap} {C Cw : Addr}

abbrev st_is_ring : Stmt := topS 32
theorem sc_is_ring : FnScope ["web", "thing", "known", "pair", "later", "index", "ware"] ["web", "thing"] (defScope st_is_ring) := ⟨rfl, rfl, rfl, by decide +kernel, rfl, by decide +kernel, by decide +kernel⟩
def spIsRing (K : PySem.W.Frag) (Cw : Addr) : Sp := fun vs H Q _ => ∃ (v u : V) (n : Int) (S : List Stall) (r : Way), vs = [v, u] ∧ WebA K Cw H v n S ∧ GoodW n S ∧ WayA K H u r ∧ Ring S r ∧ ∀ H', Same H H' → Q (.bl true) H'
theorem ok_is_ring (D : Def K mg "is_ring" st_is_ring ["web", "thing"]) (T : Txt K mg C Cw) (c_is_integer : Cal P w K mg base "is_integer" 1 ["thing"] spInt) (c_is_ware_below : Cal P w K mg base "is_ware_below" 2 ["thing", "wares"] spWare)
    (c_other_ware : Cal P w K mg base "other_ware" 1 ["stall", "ware"] (spOther K)) : Cal P w K mg base "is_ring" 3 ["web", "thing"] (spIsRing K Cw) := by
  refine D.ok sc_is_ring (fun vs H Q E h => ?_) (fun f cdv A outer s H vs Q E hr h => ?_)
  · obtain ⟨v, u, n, S, r, rfl, _⟩ := h
    rfl
  · obtain ⟨v, u, n, S, r, rfl, hw, g, hu, hR, k⟩ := h
    refine ⟨_, (pss_cons (ps_if (PW.pt (pw_or (pt_not (pt_val (pe_callB call_isi (by rfl) T.z_isinstance (by decide +kernel) (pa_cons (pv 1) (pa_cons (pe_bltn (v := .ty "tuple") (by rfl) T.z_tuple (by decide +kernel) rfl) pa_nil))))) (pw_or1 (pt_cmpR (op_eqP (u62 hr)) (pv 1) (pe_tup pa_nil) (nomark _))))) (pss_one (ps_ret pe_bl)) pss_nil)
        (pss_cons (ps_set (i := 2) sc_is_ring.nd rfl (Or.inl rfl) pe_dnewK)
        (pss_cons (ps_for PassesOwn.never rfl (pi_tup (pv 1)) (pg_name (i := 3) sc_is_ring.nd rfl (Or.inl rfl)) (pss_cons (ps_if (PW.pt (pw_or (pt_not (pt_val (pe_callB call_isi (by rfl) T.z_isinstance (by decide +kernel) (pa_cons (pv 3) (pa_cons (pe_bltn (v := .ty "tuple") (by rfl) T.z_tuple (by decide +kernel) rfl) pa_nil))))) (pw_or (pt_cmpR op_ne (pe_callB call_len_seq (by rfl) T.z_len (by decide +kernel) (pa_cons (pv 3) pa_nil)) pe_int (nomark _)) (pw_or1 (pt_not (pt_val (pe_cal c_is_integer (hr.mono (by decide)) (by rfl) (pa_cons (pe_ix ix_tup (pv 3) pe_int (fun _ _ => rfl)) pa_nil)))))))) (pss_one (ps_ret pe_bl)) pss_nil)
        (pss_cons (ps_if (PW.pt (pw_or (pt_not (pt_chain op_le op_lt pe_int (pe_ix ix_tup (pv 3) pe_int (fun _ _ => rfl)) (pe_callB call_len_seq (by rfl) T.z_len (by decide +kernel) (pa_cons (pe_fld (pv 0) rfl) pa_nil)))) (pw_or (pt_cmp (pc_din (hu_of hr) (pe_ix ix_tup (pv 3) pe_int (fun _ _ => rfl)) (pv 2))) (pw_or1 (pt_not (pt_val (pe_cal c_is_ware_below (hr.mono (by decide)) (by rfl) (pa_cons (pe_ix ix_tup (pv 3) pe_int (fun _ _ => rfl)) (pa_cons (pe_fld (pv 0) rfl) pa_nil))))))))) (pss_one (ps_ret pe_bl)) pss_nil)
        (pss_cons (ps_dput (hu_of hr) (pv 2) (pe_ix ix_tup (pv 3) pe_int (fun _ _ => rfl)) pe_bl rfl)
        (pss_one (ps_if (pt_cmpR op_notIn_seq (pe_ix ix_tup (pv 3) pe_int (fun _ _ => rfl)) (pe_slice sl_tup (pe_ix ix_tup (pe_fld (pv 0) rfl) (pe_ix ix_tup (pv 3) pe_int (fun _ _ => rfl)) (fun _ _ => rfl)) po_none (po_some pe_int)) (by rfl)) (pss_one (ps_ret pe_bl)) pss_nil))))))
        (pss_cons (ps_set (i := 4) sc_is_ring.nd rfl (Or.inl rfl) (pe_op op_catA (pe_slice sl_tupA (pv 1) (po_some pe_int) po_none) (pe_slice sl_tupA (pv 1) po_none (po_some pe_int))))
        (pss_one (ps_ret (pe_callB (cr_all rfl) (by rfl) T.z_all (by decide +kernel) (pa_cons (pe_lc (own := [("index", 5), ("ware", 6), ("pair", 3)]) (by rfl) sc_is_ring.nd (RZ.pi_zipA (by rfl) T.z_zip (pa_cons (pv 1) (pa_cons (pv 4) pa_nil))) (blkOk_by (own := [("index", 5), ("ware", 6), ("pair", 3)]) (by kernel_rfl)) (fun _ _ _ _ _ => (tupG_in (n := 2) (K := K) rfl rfl (pgs_cons (tupG_in (n := 2) (K := K) rfl rfl (pgs_cons (pg_name (i := 5) sc_is_ring.nd rfl (Or.inl rfl)) (pgs_cons (pg_name (i := 6) sc_is_ring.nd rfl (Or.inl rfl)) pgs_nil))) (pgs_cons (pg_name (i := 3) sc_is_ring.nd rfl (Or.inl rfl)) pgs_nil)))) (fun _ _ _ _ _ => pts_nil) (fun _ _ _ _ _ => (pe_cmpR op_eq (pe_cal c_other_ware (hr.mono (by decide)) (by rfl) (pa_cons (pe_ix (ixT_in (K := K) rfl) (fld_in (K := K) rfl (pv 0) rfl) (pv 5) (fun _ _ => rfl)) (pa_cons (pv 6) pa_nil))) (pe_ix (ixT_in (K := K) rfl) (pv 3) pe_int (fun _ _ => rfl)) (nomark _)))) pa_nil)))))))), ?_⟩
    have g1 := g.n1
    have g8 := g.n8
    have glen := g.len
    obtain ⟨a, dx, t, xs, rfl, ha, ht, hs⟩ := hw
    obtain ⟨b, ps, rfl, hb, hps⟩ := hu
    have hpl := pairs_len hps
    refine ⟨_, rfl, _, _, _, _, _, rfl, .ty "tuple", fr_ty hb, kit_ty (b := "tuple") (r := true) (by decide +kernel), true, rfl, iteF ?_⟩
    refine ⟨_, rfl, by show 0 ≤ sizeLine; exact Nat.zero_le _, fun e0 he0 => ?_⟩
    have s0 := same_upd (o := .tup []) he0
    refine ⟨encW r, .tuple [], .tup (hb.ext s0) (dpAll_same s0 hps), .tup (SqT.of upd_same) .nil, plain_W r, by simp [PyData.plain, PyData.plainAll], Nat.le_trans (depth_W r) (by decide), _, rfl, ?_⟩
    rw [show PyData.eqv (encW r) (.tuple []) = decide (r = []) from eqv_Ws r [], decide_eq_false hR.ne]
    refine iteF ?_
    generalize upd H e0 (.tup []) = H0 at *
    intro Kn hKn
    have sK := same_upd (o := .dK []) hKn
    refine ⟨_, rfl, b, rfl, ⟨_, hb.ext (s0.trans sK)⟩, ?_⟩
    refine for_tup (K := K) (xs := ps) (fun i σ H' => Same H H' ∧ ∃ (kvs : List (Key × V)) (u3 : Option V), H' Kn = some (.dK kvs) ∧ kvs.map (·.1) = ((r.take i).map (·.1)).map Sum.inl ∧ σ = [some (.ref a), some (.ref b), some (.ref Kn), u3, none, none, none])
      ⟨s0.trans sK, [], _, upd_same, rfl, rfl⟩ (fun i σ H' _ h => hb.ext h.1) ?_ ?_
    · rintro i x σ H1 hx ⟨s1, kvs, u3, hK1, ek, rfl⟩
      obtain ⟨p, hp, hpa⟩ := pairs_get hps hx
      obtain ⟨pb, rfl, hq⟩ := hpa.same s1
      have hm := List.mem_of_getElem? hp
      obtain ⟨st, hst, hh⟩ := hR.at hm
      obtain ⟨z0, z1, zm⟩ := stAt_rng hst
      have gs := g.good st zm
      have hwn := has_in gs hh
      obtain ⟨sv, hsv, hsA⟩ := stA_at hs hst
      have ht1 := ht.ext s1
      refine ⟨_, rfl, _, _, _, _, _, rfl, .ty "tuple", fr_ty hq, kit_ty (b := "tuple") (r := true) (by decide +kernel), true, rfl, iteF ?_⟩
      refine ⟨_, rfl, pb, _, rfl, .inr hq, rfl, _, rfl, iteF ?_⟩
      refine ⟨_, rfl, pb, _, _, _, rfl, rfl, hq, atI_nat (j := 0) rfl, _, rfl, true, rfl, iteF ?_⟩
      refine ⟨_, rfl, pb, _, _, _, rfl, rfl, hq, atI_nat (j := 0) rfl, _, _, rfl, rfl, true, by simp [z0], iteT ?_⟩
      refine ⟨_, rfl, a, Cw, dx, _, _, rfl, s1 _ _ ha, T.clW, T.nSta, webF_stalls n t, t, xs, rfl, .inr ht1, _, _, rfl, rfl, true, by rw [hs.len]; simp [z1], iteF ?_⟩
      refine ⟨_, rfl, pb, _, _, _, rfl, rfl, hq, atI_nat (j := 0) rfl, _, rfl, Kn, _, rfl, DGet.k (k := .inl p.1) hK1, _, rfl, ?_⟩
      have hnot : p.1 ∉ (r.take i).map (·.1) := by
        have nd := hR.nd
        intro hc
        obtain ⟨q, hq1, hq2⟩ := List.mem_map.mp hc
        obtain ⟨j, hj⟩ := List.getElem?_of_mem hq1
        rw [List.getElem?_take] at hj
        split at hj
        · rename_i hji
          have e1 : (r.map (·.1))[j]? = some p.1 := by rw [List.getElem?_map, hj]; simp [hq2]
          have e2 : (r.map (·.1))[i]? = some p.1 := by rw [List.getElem?_map, hp]; rfl
          obtain ⟨l1, m1⟩ := List.getElem?_eq_some_iff.mp e1
          obtain ⟨l2, m2⟩ := List.getElem?_eq_some_iff.mp e2
          have := nodup_inj nd (m1.trans m2.symm)
          omega
        · cases hj
      rw [valV_keys ek, decide_eq_false hnot]
      refine iteF ?_
      refine ⟨_, rfl, pb, _, _, _, rfl, rfl, hq, atI_nat (j := 1) rfl, _, rfl, a, Cw, dx, _, _, rfl, s1 _ _ ha, T.clW, T.nWar, webF_wares n t, p.2, n, rfl, hwn.1, hwn.2, true, rfl, iteF ?_⟩
      have hi8 : kvs.length ≤ 800 := by
        rw [keys_len ek, List.length_map, List.length_take]
        have : i < r.length := (List.getElem?_eq_some_iff.mp hp).1
        have hrl : r.length ≤ S.length := hR.len
        omega
      refine ⟨_, rfl, _, rfl, pb, _, _, _, rfl, rfl, hq, atI_nat (j := 0) rfl, Kn, _, rfl, DPut.k (k := .inl p.1) hK1 (small1000 (by omega)), ?_⟩
      have s2 : Same H (upd H1 Kn (.dK (putK kvs (.inl p.1) (.bl true)))) := Same.mut s1 (s0.free hKn)
      have k2 : (putK kvs (.inl p.1) (.bl true)).map (·.1) = ((r.take (i + 1)).map (·.1)).map Sum.inl := by
        rw [keys_put ek hnot, take_snoc hp, List.map_append (f := fun x : Int × Int => x.1)]
        rfl
      have hq2 : SqT K (upd H1 Kn (.dK (putK kvs (.inl p.1) (.bl true)))) pb [.int p.1, .int p.2] := by
        obtain ⟨pb', e, h⟩ := hpa.same s2
        cases e
        exact h
      have hK2 : (upd H1 Kn (.dK (putK kvs (.inl p.1) (.bl true)))) Kn = some (.dK (putK kvs (.inl p.1) (.bl true))) := upd_same
      generalize upd H1 Kn (.dK (putK kvs (.inl p.1) (.bl true))) = H2 at *
      obtain ⟨sb, y1, y2, y3, rfl, hsb, _, _, _⟩ := hsA.same s2
      refine ⟨_, rfl, pb, _, _, _, rfl, rfl, hq2, atI_nat (j := 1) rfl, _, rfl, a, Cw, dx, _, _, rfl, s2 _ _ ha, T.clW, T.nSta, webF_stalls n t, _, rfl, pb, _, _, _, rfl, rfl, hq2, atI_nat (j := 0) rfl, t, xs, p.1, .ref sb, rfl, rfl, ht.ext s2, hsv, 2, rfl, sb, _, rfl, hsb, (by show ¬ (HT.sIx 5 0 none = 0 ∧ HT.sIx 5 5 (some 2) = 5); decide), fun pc hpc => ?_⟩
      refine ⟨pc, [.int st.one, .int st.other], rfl, .inr (SqT.of upd_same), rfl, by simp [flatV], ?_⟩
      rw [if_pos rfl, show inV (.int p.2) [.int st.one, .int st.other] = decide (p.2 ∈ [st.one, st.other]) from inV_int p.2 [st.one, st.other], decide_eq_true (has_iff.mpr hh)]
      refine ⟨_, rfl, iteF ?_⟩
      exact ⟨s2.trans (same_upd hpc), _, _, (same_upd hpc) _ _ hK2, k2, rfl⟩
    · rintro σ H1 ⟨s1, kvs, u3, hK1, ek, rfl⟩
      refine ⟨_, rfl, 1, rfl, ?_⟩
      refine noPart_of (slA_of (hb.ext s1) fun l1 H2 s2 hl1 => ?_)
      refine ⟨_, rfl, ?_⟩
      refine noPart_of (partC_of (slA_of (hb.ext (s1.trans s2)) fun l2 H3 s3 hl2 => ?_))
      rw [show cutV ps (some 1) none = ps.drop 1 from cut_from ps 1] at hl1
      rw [show cutV ps none (some 1) = ps.take 1 from cut_to ps 1] at hl2
      have hrl : r.length ≤ S.length := hR.len
      refine catQ_of (hl1.ext s3) hl2 (by rw [List.length_drop, List.length_take]; omega) fun lt H4 s4 hlt => ?_
      have s14 := ((s1.trans s2).trans s3).trans s4
      have hps4 := dpAll_same s14 hps
      have hlt4 : DpAll K H4 (ps.drop 1 ++ ps.take 1) ((r.drop 1 ++ r.take 1).map encP) := by
        rw [List.map_append, List.map_drop, List.map_take]
        exact dpAll_app (dpAll_drop 1 hps4) (dpAll_take 1 hps4)
      refine ⟨_, rfl, _, rfl, b, lt, ps, _, rfl, .inr ⟨hb.ext s14, hlt, fun D hD => ?_⟩⟩
      have hplt : (ps.drop 1 ++ ps.take 1).length = r.length := by
        rw [List.length_append, List.length_drop, List.length_take]
        have : 0 < r.length := List.length_pos_iff.mpr hR.ne
        omega
      refine lc_it (walk_zipT (K := K) (a := b) (b := lt) (xs := ps) (ys := ps.drop 1 ++ ps.take 1) (n := r.length) (by rw [hplt, hpl, Nat.min_self])) (fun i H' => Same H4 H' ∧ H' D = some (.lst ((List.replicate i true).map V.bl))) ⟨same_upd hD, upd_same⟩ (fun i H' _ h => ⟨hb.ext (s14.trans h.1), hlt.ext h.1⟩) ?_ ?_
      · rintro i x H5 H6 hi ⟨s5, d5⟩ ⟨T0, x1, x2, rfl, hT0, rfl, e1, e2⟩
        obtain ⟨p, hp, hpa⟩ := pairs_get hps e1
        obtain ⟨q, hq, hqa⟩ := pairs_get hlt4 e2
        have hm := List.mem_of_getElem? hp
        obtain ⟨st, hst, hh⟩ := hR.at hm
        have hrot := congrArg (fun l => l[i]?) hR.rot
        simp only [List.getElem?_map, hp, hq, Option.map_some, Option.some.injEq] at hrot
        rw [turn1_at hst] at hrot
        obtain ⟨sv, hsv, hsA⟩ := stA_at hs hst
        have s6 := s5.trans (same_upd (o := .tup [x1, x2]) hT0)
        have s7 := s14.trans s6
        have d6 := (same_upd (o := .tup [x1, x2]) hT0) _ _ d5
        obtain ⟨pb, rfl, hpb⟩ := hpa.same s7
        obtain ⟨qb, rfl, hqb⟩ := hqa.same s6
        refine ⟨T0, _, rfl, SqT.of upd_same, rfl, _, _, rfl, pb, _, rfl, hpb, rfl, _, _, rfl, _, _, rfl, rfl, _, _, rfl, rfl, rfl, yes_if ?_⟩
        refine ⟨_, rfl, a, Cw, dx, _, _, rfl, s7 _ _ ha, T.clW, T.nSta, webF_stalls n t, _, rfl, t, xs, p.1, sv, rfl, rfl, ht.ext s7, hsv, _, rfl, sv, st, p.2, rfl, hsA.same s7, _, rfl, qb, _, _, _, rfl, rfl, hqb, atI_nat (j := 1) rfl, rfl, _, d6, ?_, Same.mut s6 hD, ?_⟩
        · rw [List.length_map, List.length_replicate]
          exact small1000 (by omega)
        · rw [upd_same, show decide (V.int (st.oth p.2) = V.int q.2) = true from decide_eq_true (by rw [hrot]), rep_snoc]
      · rintro H5 ⟨s5, d5⟩
        refine ⟨D, List.replicate r.length true, rfl, SqL.of d5, ?_⟩
        rw [all_true]
        exact k _ (s14.trans s5)
end
end K32
end

section
set_option Elab.async false
set_option linter.all false
set_option maxRecDepth 100000
set_option maxHeartbeats 4000000
/-! K32ZF: uneven rings, ways turned about, the least way, the ways on. -/
namespace K32
open PySem PySem.Spec PyProof.Rows L2
theorem pr_snoc (f : Int × Int → Rat) (a : Way) (p : Int × Int) : pr f (a ++ [p]) = pr f a * f p := by
  rw [pr_append]
  show pr f a * (f p * 1) = pr f a * f p
  rw [Rat.mul_one]
/-! ### data of tuples alone stays when a list or a dict changes -/
mutual
def tupOnly : PyData → Bool
  | .list _ => false
  | .tuple ds => tupOnlyAll ds
  | _ => true
def tupOnlyAll : List PyData → Bool
  | [] => true
  | d :: ds => tupOnly d && tupOnlyAll ds
end
mutual
theorem dp_keep {K : PySem.W.Frag} {H H' : Hp} (hk : ∀ b xs, SqT K H b xs → SqT K H' b xs) : ∀ {v : V} {d : PyData}, Dp K H v d → tupOnly d = true → Dp K H' v d
  | _, _, .non, _ => .non
  | _, _, .bl b, _ => .bl b
  | _, _, .int i, _ => .int i
  | _, _, .str x, _ => .str x
  | _, _, .lst h a, e => by simp [tupOnly] at e
  | _, _, .tup h a, e => .tup (hk _ _ h) (dpAll_keep hk a (by simpa [tupOnly] using e))
theorem dpAll_keep {K : PySem.W.Frag} {H H' : Hp} (hk : ∀ b xs, SqT K H b xs → SqT K H' b xs) : ∀ {vs : List V} {ds : List PyData}, DpAll K H vs ds → tupOnlyAll ds = true → DpAll K H' vs ds
  | _, _, .nil, _ => .nil
  | _, _, .cons a b, e => by
    simp only [tupOnlyAll, Bool.and_eq_true] at e
    exact .cons (dp_keep hk a e.1) (dpAll_keep hk b e.2)
end
theorem sqT_upd {K : PySem.W.Frag} {H : Hp} {D : Addr} {o o2 : HO} (hD : H D = some o) (n1 : ∀ xs, HO.tup xs ≠ o) (n2 : ∀ q xs, HO.frz q (.tup xs) ≠ o) : ∀ b xs, SqT K H b xs → SqT K (upd H D o2) b xs := by
  rintro b xs ((h | ⟨q, h⟩) | h)
  · exact .inl (.inl (by rw [upd_ne (ne_of h hD (n1 _))]; exact h))
  · exact .inl (.inr ⟨q, by rw [upd_ne (ne_of h hD (n2 _ _))]; exact h⟩)
  · exact .inr h
theorem sqT_lst {K : PySem.W.Frag} {H : Hp} {D : Addr} {ys : List V} {o2 : HO} (hD : H D = some (.lst ys)) : ∀ b xs, SqT K H b xs → SqT K (upd H D o2) b xs := sqT_upd hD (fun _ z => nomatch z) (fun _ _ z => nomatch z)
theorem tupOnlyAll_map {β : Type} {enc : β → PyData} (h : ∀ b, tupOnly (enc b) = true) : ∀ l : List β, tupOnlyAll (l.map enc) = true
  | [] => rfl
  | b :: l => by
    rw [List.map_cons, tupOnlyAll, h b, tupOnlyAll_map h l]
    rfl
theorem tupOnly_P (p : Int × Int) : tupOnly (encP p) = true := rfl
theorem tupOnly_W (r : Way) : tupOnly (encW r) = true := by
  unfold encW
  rw [tupOnly]
  exact tupOnlyAll_map tupOnly_P r
theorem tupOnly_L (l : List Int) : tupOnly (encL l) = true := by
  unfold encL
  rw [tupOnly]
  exact tupOnlyAll_map (enc := PyData.int) (fun _ => rfl) l
theorem tupOnly_Z (l : List Int) : tupOnly (encZ l) = true := by
  unfold encZ
  rw [tupOnly, tupOnlyAll, tupOnlyAll, tupOnly_L]
  rfl
theorem next_of {D : Ends} {σ : L2.St} {H : Hp} (h : D.nx σ H) : tNext D σ H := h
theorem asg_of {te : TE} {g : TG} {D : Ends} {σ : L2.St} {H : Hp} (h : te σ H fun x H1 => g x σ H1 D.nx) : tAsg te g D σ H := h
section
variable {P : Program} {w : World} {K : PySem.W.Frag} {mg : Str → Option Value} {base : Heap} {C Cw : Addr}

abbrev st_is_uneven_ring : Stmt := topS 33
theorem sc_is_uneven_ring : FnScope ["web", "thing", "first", "second", "index", "ware", "stall"] ["web", "thing"] (defScope st_is_uneven_ring) := ⟨rfl, rfl, rfl, by decide +kernel, rfl, by decide +kernel, by decide +kernel⟩
def spUnevenR (K : PySem.W.Frag) (Cw : Addr) : Sp := fun vs H Q _ => ∃ (v u : V) (n : Int) (S : List Stall) (r : Way), vs = [v, u] ∧ WebA K Cw H v n S ∧ GoodW n S ∧ WayA K H u r ∧ Ring S r ∧ ∀ b H', Same H H' → (b = true ↔ Uneven S r) → Q (.bl b) H'
theorem ok_is_uneven_ring (D : Def K mg "is_uneven_ring" st_is_uneven_ring ["web", "thing"]) (T : Txt K mg C Cw) (c_is_ring : Cal P w K mg base "is_ring" 3 ["web", "thing"] (spIsRing K Cw)) (c_other_ware : Cal P w K mg base "other_ware" 1 ["stall", "ware"] (spOther K))
    (c_held_of : Cal P w K mg base "held_of" 5 ["stall", "ware"] (spHeld K C)) (i_Exact : ICal P w K mg base "Exact" C 2 ["self", "top", "bottom"] (spInitE C)) (m_mul : MCal P w K mg base C "__mul__" 4 ["self", "other"] (spMul C)) (m_eq : MCal P w K mg base C "__eq__" 1 ["self", "other"] (spEqE C)) :
    Cal P w K mg base "is_uneven_ring" 6 ["web", "thing"] (spUnevenR K Cw) := by
  refine D.ok sc_is_uneven_ring (fun vs H Q E h => ?_) (fun f cdv A outer s H vs Q E hr h => ?_)
  · obtain ⟨v, u, n, S, r, rfl, _⟩ := h
    rfl
  · obtain ⟨v, u, n, S, r, rfl, hw, g, hu, hR, k⟩ := h
    refine ⟨_, (pss_cons (ps_if (pt_not (pt_val (pe_cal c_is_ring (hr.mono (by decide)) (by rfl) (pa_cons (pv 0) (pa_cons (pv 1) pa_nil))))) (pss_one (ps_ret pe_bl)) pss_nil)
        (pss_cons (ps_set (i := 2) sc_is_uneven_ring.nd rfl (Or.inl rfl) (pe_ical i_Exact (hr.mono (by decide)) (by rfl) (pa_cons pe_int (pa_cons pe_int pa_nil))))
        (pss_cons (ps_set (i := 3) sc_is_uneven_ring.nd rfl (Or.inl rfl) (pe_ical i_Exact (hr.mono (by decide)) (by rfl) (pa_cons pe_int (pa_cons pe_int pa_nil))))
        (pss_cons (ps_for PassesOwn.never rfl (pi_tup (pv 1)) (pg_tup (n := 2) rfl (pgs_cons (pg_name (i := 4) sc_is_uneven_ring.nd rfl (Or.inl rfl)) (pgs_cons (pg_name (i := 5) sc_is_uneven_ring.nd rfl (Or.inl rfl)) pgs_nil))) (pss_cons (ps_set (i := 6) sc_is_uneven_ring.nd rfl (Or.inl rfl) (pe_ix ix_tup (pe_fld (pv 0) rfl) (pv 4) (fun _ _ => rfl)))
        (pss_cons (ps_set (i := 2) sc_is_uneven_ring.nd rfl (Or.inl rfl) (pe_op (op_ins (op := .Mult) m_mul (hr.mono (by decide)) T.sfE) (pv 2) (pe_cal c_held_of (hr.mono (by decide)) (by rfl) (pa_cons (pv 6) (pa_cons (pv 5) pa_nil)))))
        (pss_one (ps_set (i := 3) sc_is_uneven_ring.nd rfl (Or.inl rfl) (pe_op (op_ins (op := .Mult) m_mul (hr.mono (by decide)) T.sfE) (pv 3) (pe_cal c_held_of (hr.mono (by decide)) (by rfl) (pa_cons (pv 6) (pa_cons (pe_cal c_other_ware (hr.mono (by decide)) (by rfl) (pa_cons (pv 6) (pa_cons (pv 5) pa_nil))) pa_nil)))))))))
        (pss_one (ps_ret (pe_cmpR (op_neIns m_eq (hr.mono (by decide)) T.neE T.obE) (pv 2) (pv 3) (nomark _)))))))), ?_⟩
    have glen := g.len
    have hrl : r.length ≤ S.length := hR.len
    refine ⟨_, rfl, _, rfl, v, u, n, S, r, rfl, hw, g, hu, hR, fun H1 s1 => ⟨true, rfl, iteF ?_⟩⟩
    refine next_of (seq_of (asg_of (mkE_c (t := 1) (b := 1) (by decide) (lt9000 (m := 1) (by decide) (by decide)) fun v1 H2 s2 e1 => ?_)))
    refine gName_of (seq_of (asg_of (mkE_c (t := 1) (b := 1) (by decide) (lt9000 (m := 1) (by decide) (by decide)) fun v2 H3 s3 e2 => ?_)))
    rw [show Rat.divInt 1 1 = 1 from by decide +kernel] at e1 e2
    obtain ⟨a, dx, t, xs, rfl, ha, ht, hs⟩ := hw
    obtain ⟨b, ps, rfl, hb, hps⟩ := hu
    have hpl := pairs_len hps
    have s13 := (s1.trans s2).trans s3
    have bd1 : Bd 1 (1 : Rat) := ⟨by decide, by decide⟩
    refine ⟨_, rfl, b, rfl, ⟨_, hb.ext s13⟩, ?_⟩
    refine for_tup (K := K) (xs := ps) (fun i σ H' => Same H H' ∧ ∃ (x1 x2 : V) (u4 u5 u6 : Option V), ExA C H' x1 (pr (h1 S) (r.take i)) ∧ ExA C H' x2 (pr (h2 S) (r.take i)) ∧ Bd (1 + 12 * i) (pr (h1 S) (r.take i)) ∧ Bd (1 + 12 * i) (pr (h2 S) (r.take i)) ∧
      σ = [some (.ref a), some (.ref b), some x1, some x2, u4, u5, u6]) ⟨s13, v1, v2, _, _, _, e1.same s3, e2, bd1, bd1, rfl⟩ (fun i σ H' _ h => hb.ext h.1) ?_ ?_
    · rintro i x σ H4 hx ⟨s4, x1, x2, u4, u5, u6, f1, f2, b1, b2, rfl⟩
      obtain ⟨p, hp, hpa⟩ := pairs_get hps hx
      obtain ⟨pb, rfl, hq⟩ := hpa.same s4
      have hm := List.mem_of_getElem? hp
      have hi : i < r.length := (List.getElem?_eq_some_iff.mp hp).1
      obtain ⟨st, hst, hh⟩ := hR.at hm
      obtain ⟨_, _, zm⟩ := stAt_rng hst
      have bs := g.bd st zm
      obtain ⟨sv, hsv, hsA⟩ := stA_at hs hst
      refine ⟨pb, _, rfl, hq, rfl, _, _, rfl, _, _, rfl, rfl, ?_⟩
      refine ⟨_, rfl, a, Cw, dx, _, _, rfl, s4 _ _ ha, T.clW, T.nSta, webF_stalls n t, _, rfl, t, xs, p.1, sv, rfl, rfl, ht.ext s4, hsv, ?_⟩
      refine ⟨_, rfl, _, rfl, _, rfl, sv, st, p.2, rfl, hsA.same s4, bs, fun v5 H5 s5 e5 => ?_⟩
      obtain ⟨a1, dx1, rfl, k1⟩ := f1.same s5
      obtain ⟨a2, dx2, rfl, k2⟩ := e5
      refine ⟨a1, a2, dx1, dx2, _, _, rfl, rfl, k1, k2, _, _, _, _, 1 + 12 * i, 12, rfl, ⟨_, _, rfl, k1⟩, ⟨_, _, rfl, k2⟩, b1, bs.hold p.2, by omega, by decide, by omega, fun v6 H6 s6 e6 => ?_⟩
      refine ⟨_, rfl, _, rfl, _, rfl, _, rfl, sv, st, p.2, rfl, (hsA.same s4).same (s5.trans s6), sv, st, st.oth p.2, rfl, (hsA.same s4).same (s5.trans s6), bs, fun v7 H7 s7 e7 => ?_⟩
      obtain ⟨a3, dx3, rfl, k3⟩ := f2.same ((s5.trans s6).trans s7)
      obtain ⟨a4, dx4, rfl, k4⟩ := e7
      refine ⟨a3, a4, dx3, dx4, _, _, rfl, rfl, k3, k4, _, _, _, _, 1 + 12 * i, 12, rfl, ⟨_, _, rfl, k3⟩, ⟨_, _, rfl, k4⟩, b2, bs.hold (st.oth p.2), by omega, by decide, by omega, fun v8 H8 s8 e8 => ?_⟩
      have c1 : pr (h1 S) (r.take (i + 1)) = pr (h1 S) (r.take i) * st.hold p.2 := by rw [take_snoc hp, pr_snoc, h1_at hst]
      have c2 : pr (h2 S) (r.take (i + 1)) = pr (h2 S) (r.take i) * st.hold (st.oth p.2) := by rw [take_snoc hp, pr_snoc, h2_at hst]
      refine ⟨s4.trans (((s5.trans s6).trans s7).trans s8), v6, v8, _, _, _, ?_, ?_, ?_, ?_, rfl⟩
      · rw [c1]
        exact e6.same (s7.trans s8)
      · rw [c2]
        exact e8
      · rw [c1]
        exact (b1.mul (bs.hold p.2)).mono (by omega)
      · rw [c2]
        exact (b2.mul (bs.hold (st.oth p.2))).mono (by omega)
    · rintro σ H4 ⟨s4, x1, x2, u4, u5, u6, f1, f2, b1, b2, rfl⟩
      rw [hpl, List.take_of_length_le (Nat.le_refl _)] at f1 f2
      obtain ⟨a1, dx1, rfl, k1⟩ := f1
      obtain ⟨a2, dx2, rfl, k2⟩ := f2
      refine ⟨_, rfl, _, rfl, a1, a2, dx1, dx2, _, _, rfl, rfl, k1, k2, _, _, _, _, rfl, ⟨_, _, rfl, k1⟩, ⟨_, _, rfl, k2⟩, _, rfl, k _ _ s4 ?_⟩
      unfold Uneven
      simp

abbrev st_turned_about : Stmt := topS 38
theorem sc_turned_about : FnScope ["web", "ring", "index", "ware"] ["web", "ring"] (defScope st_turned_about) := ⟨rfl, rfl, rfl, by decide +kernel, rfl, by decide +kernel, by decide +kernel⟩
def spTurned (K : PySem.W.Frag) (Cw : Addr) : Sp := fun vs H Q _ => ∃ (v u : V) (n : Int) (S : List Stall) (r : Way), vs = [v, u] ∧ WebA K Cw H v n S ∧ GoodW n S ∧ WayA K H u r ∧ Ring S r ∧ ∀ x H', Same H H' → WayA K H' x (turned S r) → Q x H'
theorem ok_turned_about (D : Def K mg "turned_about" st_turned_about ["web", "ring"]) (T : Txt K mg C Cw) (c_other_ware : Cal P w K mg base "other_ware" 1 ["stall", "ware"] (spOther K)) :
    Cal P w K mg base "turned_about" 2 ["web", "ring"] (spTurned K Cw) := by
  refine D.ok sc_turned_about (fun vs H Q E h => ?_) (fun f cdv A outer s H vs Q E hr h => ?_)
  · obtain ⟨v, u, n, S, r, rfl, _⟩ := h
    rfl
  · obtain ⟨v, u, n, S, r, rfl, hw, g, hu, hR, k⟩ := h
    refine ⟨_, (pss_one (ps_ret (pe_callTy call_tuple_of (by rfl) T.z_tuple (by decide +kernel) (pa_cons (pe_lc (own := [("index", 2), ("ware", 3)]) (by rfl) sc_turned_about.nd (pi_tup (pe_revT (pv 1))) (blkOk_by (own := [("index", 2), ("ware", 3)]) (by kernel_rfl)) (fun _ _ _ _ _ => (tupG_in (n := 2) (K := K) rfl rfl (pgs_cons (pg_name (i := 2) sc_turned_about.nd rfl (Or.inl rfl)) (pgs_cons (pg_name (i := 3) sc_turned_about.nd rfl (Or.inl rfl)) pgs_nil)))) (fun _ _ _ _ _ => pts_nil) (fun _ _ _ _ _ => (pe_tup (pa_cons (pv 2) (pa_cons (pe_cal c_other_ware (hr.mono (by decide)) (by rfl) (pa_cons (pe_ix (ixT_in (K := K) rfl) (fld_in (K := K) rfl (pv 0) rfl) (pv 2) (fun _ _ => rfl)) (pa_cons (pv 3) pa_nil))) pa_nil))))) pa_nil)))), ?_⟩
    have glen := g.len
    have hrl : r.length ≤ S.length := hR.len
    obtain ⟨a, dx, t, xs, rfl, ha, ht, hs⟩ := hw
    obtain ⟨b, ps, rfl, hb, hps⟩ := hu
    have hpl := pairs_len hps
    refine ⟨_, rfl, b, ps, rfl, hb, fun q hq => ?_⟩
    refine ⟨q, rfl, ⟨_, SqT.of upd_same⟩, fun D hD => ?_⟩
    have hpr : DpAll K (upd H q (.tup ps.reverse)) ps.reverse (r.reverse.map encP) := by
      rw [List.map_reverse]
      exact dpAll_rev (dpAll_same (same_upd hq) hps)
    have sq := same_upd (o := .tup ps.reverse) hq
    refine lc_tup (K := K) (xs := ps.reverse) (fun i H' => Same (upd H q (.tup ps.reverse)) H' ∧ ∃ vs, H' D = some (.lst vs) ∧ DpAll K H' vs (((r.reverse.take i).map (turn1 S)).map encP)) ⟨same_upd hD, [], upd_same, .nil⟩ (fun i H' _ h => SqT.of (h.1 _ _ upd_same)) ?_ ?_
    · rintro i x H1 hx ⟨s1, vs, d1, d2⟩
      obtain ⟨p, hp, hpa⟩ := pairs_get hpr hx
      obtain ⟨pb, rfl, hq1⟩ := hpa.same s1
      have hm : p ∈ r := List.mem_reverse.mp (List.mem_of_getElem? hp)
      have hi : i < r.reverse.length := (List.getElem?_eq_some_iff.mp hp).1
      rw [List.length_reverse] at hi
      obtain ⟨st, hst, hh⟩ := hR.at hm
      obtain ⟨sv, hsv, hsA⟩ := stA_at hs hst
      have sH := sq.trans s1
      refine ⟨pb, _, rfl, hq1, rfl, _, _, rfl, _, _, rfl, rfl, rfl, yes_if ?_⟩
      refine ⟨_, rfl, _, rfl, a, Cw, dx, _, _, rfl, sH _ _ ha, T.clW, T.nSta, webF_stalls n t, _, rfl, t, xs, p.1, sv, rfl, rfl, ht.ext sH, hsv, _, rfl, sv, st, p.2, rfl, hsA.same sH, by show 2 ≤ sizeLine; decide, fun p2 hp2 => ?_⟩
      have s2 := same_upd (o := .tup [.int p.1, .int (st.oth p.2)]) hp2
      have hvl := dpAll_len d2
      rw [List.length_map, List.length_map, List.length_take, List.length_reverse] at hvl
      refine ⟨vs, s2 _ _ d1, small1000 (by omega), Same.mut (s1.trans s2) hD, _, upd_same, ?_⟩
      have e1 : DpAll K (upd H1 p2 (.tup [.int p.1, .int (st.oth p.2)])) (vs ++ [.ref p2]) (((r.reverse.take (i + 1)).map (turn1 S)).map encP) := by
        rw [take_snoc hp, List.map_append, List.map_append]
        refine dpAll_app (dpAll_same s2 d2) (.cons ?_ .nil)
        rw [turn1_at hst]
        exact .tup (SqT.of upd_same) (.cons (.int _) (.cons (.int _) .nil))
      exact dpAll_keep (sqT_lst (s2 _ _ d1)) e1 (tupOnlyAll_map tupOnly_P _)
    · rintro H1 ⟨s1, vs, d1, d2⟩
      refine ⟨D, vs, rfl, .inl ⟨SqL.of d1, fun tt htt => k _ _ ((sq.trans s1).trans (same_upd htt)) ⟨tt, vs, rfl, SqT.of upd_same, ?_⟩⟩⟩
      rw [List.length_reverse, hpl, ← List.length_reverse, List.take_of_length_le (Nat.le_refl _)] at d2
      exact dpAll_same (same_upd htt) d2

abbrev st_least_way : Stmt := topS 39
theorem sc_least_way : FnScope ["web", "ring", "found", "way", "at"] ["web", "ring"] (defScope st_least_way) := ⟨rfl, rfl, rfl, by decide +kernel, rfl, by decide +kernel, by decide +kernel⟩
def spLeast (K : PySem.W.Frag) (Cw : Addr) : Sp := fun vs H Q _ => ∃ (v u : V) (n : Int) (S : List Stall) (r : Way), vs = [v, u] ∧ WebA K Cw H v n S ∧ GoodW n S ∧ WayA K H u r ∧ Ring S r ∧ ∀ x H', Same H H' → WayA K H' x (leastWay S r) → Q x H'
theorem ok_least_way (D : Def K mg "least_way" st_least_way ["web", "ring"]) (T : Txt K mg C Cw) (c_turned_about : Cal P w K mg base "turned_about" 2 ["web", "ring"] (spTurned K Cw)) :
    Cal P w K mg base "least_way" 3 ["web", "ring"] (spLeast K Cw) := by
  refine D.ok sc_least_way (fun vs H Q E h => ?_) (fun f cdv A outer s H vs Q E hr h => ?_)
  · obtain ⟨v, u, n, S, r, rfl, _⟩ := h
    rfl
  · obtain ⟨v, u, n, S, r, rfl, hw, g, hu, hR, k⟩ := h
    refine ⟨_, (pss_cons (ps_set (i := 2) sc_least_way.nd rfl (Or.inl rfl) (pe_lst pa_nil))
        (pss_cons (ps_for PassesOwn.never rfl (pi_tup (pe_tup (pa_cons (pv 1) (pa_cons (pe_cal c_turned_about (hr.mono (by decide)) (by rfl) (pa_cons (pv 0) (pa_cons (pv 1) pa_nil))) pa_nil)))) (pg_name (i := 3) sc_least_way.nd rfl (Or.inl rfl)) (pss_one (ps_for PassesOwn.never rfl (pi_range1 (by rfl) T.z_range (pa_cons (pe_callB call_len_seq (by rfl) T.z_len (by decide +kernel) (pa_cons (pv 3) pa_nil)) pa_nil)) (pg_name (i := 4) sc_least_way.nd rfl (Or.inl rfl)) (pss_one (ps_expr (pe_bm PySem.F.plainAttrs_list PySem.F.slot_list_append PySem.F.type_list_append mt_append (pv 2) (pa_cons (pe_op op_catA (pe_slice sl_tupA (pv 3) (po_some (pv 4)) po_none) (pe_slice sl_tupA (pv 3) po_none (po_some (pv 4)))) pa_nil)))))))
        (pss_one (ps_ret (pe_callB (cr_minW rfl (u62 hr)) (by rfl) T.z_min (by decide +kernel) (pa_cons (pv 2) pa_nil)))))), ?_⟩
    have glen := g.len
    have hrl : r.length ≤ S.length := hR.len
    refine ⟨by show 0 ≤ sizeLine; exact Nat.zero_le _, fun L0 hL0 => ?_⟩
    have sL := same_upd (o := .lst []) hL0
    refine ⟨_, rfl, _, rfl, _, rfl, v, u, n, S, r, rfl, hw.same sL, g, hu.same sL, hR, fun x H1 s1 hx => ⟨by show 2 ≤ sizeLine; decide, fun p hp => ?_⟩⟩
    have sp := same_upd (o := .tup [u, x]) hp
    refine ⟨p, rfl, ⟨_, SqT.of upd_same⟩, ?_⟩
    have eL : upd H1 p (.tup [u, x]) L0 = some (.lst []) := sp _ _ (s1 _ _ upd_same)
    have ep : upd H1 p (.tup [u, x]) p = some (.tup [u, x]) := upd_same
    have wr : WayA K (upd H1 p (.tup [u, x])) u r := ((hu.same sL).same s1).same sp
    have wx : WayA K (upd H1 p (.tup [u, x])) x (turned S r) := hx.same sp
    have sH : Same H (upd H1 p (.tup [u, x])) := (sL.trans s1).trans sp
    have tlen : (turned S r).length = r.length := by
      unfold turned
      rw [List.length_map, List.length_reverse]
    generalize upd H1 p (.tup [u, x]) = H2 at *
    have hsel : ∀ (j : Nat) (z : V), [u, x][j]? = some z → ∃ y : Way, [r, turned S r][j]? = some y ∧ WayA K H2 z y ∧ y.length = r.length := by
      intro j z hz
      match j, hz with
      | 0, hz => exact ⟨r, rfl, by cases hz; exact wr, rfl⟩
      | 1, hz => exact ⟨turned S r, rfl, by cases hz; exact wx, tlen⟩
      | j + 2, hz => simp at hz
    refine for_tup (K := K) (xs := [u, x]) (fun j σ H' => Same H H' ∧ (∀ b xs, SqT K H2 b xs → SqT K H' b xs) ∧ ∃ (vs : List V) (u3 u4 : Option V), H' L0 = some (.lst vs) ∧ DpAll K H' vs ((([r, turned S r].take j).flatMap rots).map encW) ∧ σ = [some v, some u, some (.ref L0), u3, u4])
      ⟨sH, fun _ _ h => h, [], _, _, eL, .nil, rfl⟩ (fun j σ H' _ h => h.2.1 _ _ (SqT.of ep)) ?_ ?_
    · rintro j z σ H3 hz ⟨s3, k3, vs, u3, u4, d1, d2, rfl⟩
      obtain ⟨y, hy, ⟨a, ps, rfl, ha, hps⟩, hyl⟩ := hsel j z hz
      have hpl := pairs_len hps
      have ha3 := k3 _ _ ha
      have jl : (([r, turned S r].take j).flatMap rots).length ≤ 16 := by
        have : j < 2 := (List.getElem?_eq_some_iff.mp hz).1
        match j with
        | 0 => simp
        | 1 =>
          have : (rots r).length = r.length := by simp [rots]
          simp [this]
          omega
        | j + 2 => omega
      refine ⟨_, rfl, a, ps, rfl, .inr ha3, ps.length, rfl, by omega, by omega, ?_⟩
      rw [Int.toNat_natCast]
      refine for_range (fun i σ H' => Same H H' ∧ (∀ b xs, SqT K H2 b xs → SqT K H' b xs) ∧ ∃ (vs : List V) (u4 : Option V), H' L0 = some (.lst vs) ∧ DpAll K H' vs ((([r, turned S r].take j).flatMap rots ++ (List.range i).map fun i => y.drop i ++ y.take i).map encW) ∧ σ = [some v, some u, some (.ref L0), some (.ref a), u4])
        ⟨s3, k3, vs, u4, d1, by simpa using d2, rfl⟩ ?_ ?_
      · rintro i σ H4 hi ⟨s4, k4, vs, u4, d1, d2, rfl⟩
        rw [Int.zero_add]
        refine ⟨_, rfl, .inl ⟨rfl, _, SqL.of d1⟩, ?_⟩
        refine ⟨_, rfl, _, rfl, (i : Int), rfl, ?_⟩
        have ha4 := k4 _ _ ha
        refine noPart_of (slA_of ha4 fun l1 H5 s5 h5 => ?_)
        refine ⟨_, rfl, ?_⟩
        refine noPart_of (partV_of rfl (slA_of (ha4.ext s5) fun l2 H6 s6 h6 => ?_))
        rw [cut_from] at h5
        rw [cut_to] at h6
        refine catQ_of (h5.ext s6) h6 (by rw [List.length_drop, List.length_take]; omega) fun l3 H7 s7 h7 => ?_
        have s47 := (s5.trans s6).trans s7
        have hvl := dpAll_len d2
        rw [List.length_map, List.length_append, List.length_map, List.length_range] at hvl
        have hps7 : DpAll K H7 (ps.drop i ++ ps.take i) ((y.drop i ++ y.take i).map encP) := by
          have := dpAll_keep (fun b xs h => ((k4 b xs h).ext s47)) hps (tupOnlyAll_map tupOnly_P _)
          rw [List.map_append, List.map_drop, List.map_take]
          exact dpAll_app (dpAll_drop i this) (dpAll_take i this)
        have d7 := s47 _ _ d1
        have hk := sqT_lst (K := K) (o2 := .lst (vs ++ [.ref l3])) d7
        have e7 : DpAll K H7 (vs ++ [.ref l3]) ((([r, turned S r].take j).flatMap rots ++ (List.range (i + 1)).map fun i => y.drop i ++ y.take i).map encW) := by
          rw [List.range_succ, List.map_append (l₁ := List.range i), ← List.append_assoc, List.map_append (f := encW)]
          exact dpAll_app (dpAll_same s47 d2) (.cons (.tup h7 hps7) .nil)
        exact ⟨L0, vs, .ref l3, rfl, rfl, d7, small1000 (by omega), Same.mut (s4.trans s47) hL0, fun b xs h => hk _ _ ((k4 b xs h).ext s47), _, _, upd_same, dpAll_keep hk e7 (tupOnlyAll_map tupOnly_W _), rfl⟩
      · rintro σ H4 ⟨s4, k4, vs, u4, d1, d2, rfl⟩
        refine ⟨s4, k4, vs, _, _, d1, ?_, rfl⟩
        rw [take_snoc hy, List.flatMap_append]
        have : rots y = (List.range ps.length).map fun i => y.drop i ++ y.take i := by rw [hpl]; rfl
        simpa [this] using d2
    · rintro σ H3 ⟨s3, k3, vs, u3, u4, d1, d2, rfl⟩
      have ew : (([r, turned S r].take [u, x].length).flatMap rots) = ways S r := by simp [ways]
      rw [ew] at d2
      have hl : leastWay S r = leastWay S r := rfl
      unfold leastWay at k
      cases e : ways S r with
      | nil => exact absurd e (ways_ne hR.ne)
      | cons y ys =>
        rw [e] at k d2
        exact ⟨_, rfl, L0, vs, y, ys, rfl, SqL.of d1, d2, fun z hz => k z H3 s3 (way_of hz)⟩

abbrev st_ways_on : Stmt := topS 40
theorem sc_ways_on : FnScope ["web", "way", "here", "found", "index", "used", "stall", "ware"] ["web", "way", "here"] (defScope st_ways_on) := ⟨rfl, rfl, rfl, by decide +kernel, rfl, by decide +kernel, by decide +kernel⟩
def onAt (S : List Stall) (r : Way) (x : Int) : Nat → List (Way × Int)
  | 0 => []
  | q + 1 => onAt S r x q ++ (match S[q]? with
    | some st => if x ∈ [st.one, st.other] ∧ (q : Int) ∉ edges r then [(r ++ [((q : Int), x)], st.oth x)] else []
    | none => [])
def OnA (K : PySem.W.Frag) (H : Hp) (v : V) (e : Way × Int) : Prop := ∃ b wv, v = .ref b ∧ SqT K H b [wv, .int e.2] ∧ WayA K H wv e.1
theorem OnA.same {K : PySem.W.Frag} {H H' : Hp} {v : V} {e : Way × Int} (h : OnA K H v e) (s : Same H H') : OnA K H' v e := by
  obtain ⟨b, wv, rfl, h1, h2⟩ := h
  exact ⟨b, wv, rfl, h1.ext s, h2.same s⟩
theorem WayA.keep {K : PySem.W.Frag} {H H' : Hp} {v : V} {r : Way} (h : WayA K H v r) (hk : ∀ b xs, SqT K H b xs → SqT K H' b xs) : WayA K H' v r := way_of (dp_keep hk h.dp (tupOnly_W r))
theorem OnA.keep {K : PySem.W.Frag} {H H' : Hp} {v : V} {e : Way × Int} (h : OnA K H v e) (hk : ∀ b xs, SqT K H b xs → SqT K H' b xs) : OnA K H' v e := by
  obtain ⟨b, wv, rfl, h1, h2⟩ := h
  exact ⟨b, wv, rfl, hk _ _ h1, h2.keep hk⟩
theorem paired_app {α β : Type} {R : α → β → Prop} : ∀ {as bs : List α} {cs ds : List β}, Paired R as cs → Paired R bs ds → Paired R (as ++ bs) (cs ++ ds)
  | _, _, _, _, .nil, k => k
  | _, _, _, _, .cons a b, k => .cons a (paired_app b k)
def spOn (K : PySem.W.Frag) (Cw : Addr) : Sp := fun vs H Q _ => ∃ (v u : V) (n : Int) (S : List Stall) (r : Way) (x : Int), vs = [v, u, .int x] ∧ WebA K Cw H v n S ∧ GoodW n S ∧ WayA K H u r ∧ r.length ≤ 8 ∧
  ∀ l vs' H', Same H H' → H l = none → H' l = some (.lst vs') → Paired (OnA K H') vs' (onAt S r x S.length) → Q (.ref l) H'
theorem ok_ways_on (D : Def K mg "ways_on" st_ways_on ["web", "way", "here"]) (T : Txt K mg C Cw) (c_other_ware : Cal P w K mg base "other_ware" 1 ["stall", "ware"] (spOther K)) :
    Cal P w K mg base "ways_on" 2 ["web", "way", "here"] (spOn K Cw) := by
  refine D.ok sc_ways_on (fun vs H Q E h => ?_) (fun f cdv A outer s H vs Q E hr h => ?_)
  · obtain ⟨v, u, n, S, r, x, rfl, _⟩ := h
    rfl
  · obtain ⟨v, u, n, S, r, x, rfl, hw, g, hu, hr8, k⟩ := h
    refine ⟨_, (pss_cons (ps_set (i := 3) sc_ways_on.nd rfl (Or.inl rfl) (pe_lst pa_nil))
        (pss_cons (ps_setLc (i := 5) (own := [("index", 4), ("ware", 7)]) (by rfl) sc_ways_on.nd rfl rfl (sw_true rfl rfl rfl (by decide +kernel)) (pi_tup (pv 1)) (blkOk_by (own := [("index", 4), ("ware", 7)]) (by kernel_rfl)) (fun _ _ _ _ _ => (tupG_in (n := 2) (K := K) rfl rfl (pgs_cons (pg_name (i := 4) sc_ways_on.nd rfl (Or.inl rfl)) (pgs_cons (pg_name (i := 7) sc_ways_on.nd rfl (Or.inl rfl)) pgs_nil)))) (fun _ _ _ _ _ => pts_nil) (fun _ _ _ _ _ => (pv 4)))
        (pss_cons (ps_for PassesOwn.never rfl (pi_enumT (by rfl) T.z_enumerate (pa_cons (pe_fld (pv 0) rfl) pa_nil)) (pg_tup (n := 2) rfl (pgs_cons (pg_name (i := 4) sc_ways_on.nd rfl (Or.inl rfl)) (pgs_cons (pg_name (i := 6) sc_ways_on.nd rfl (Or.inl rfl)) pgs_nil))) (pss_one (ps_if (PW.pt (pw_and (pt_cmpR op_in_seq (pv 2) (pe_slice sl_tup (pv 6) po_none (po_some pe_int)) (by rfl)) (pw_and1 (pt_cmpR op_notIn_seq (pv 4) (pv 5) (by rfl))))) (pss_one (ps_expr (pe_bm PySem.F.plainAttrs_list PySem.F.slot_list_append PySem.F.type_list_append mt_append (pv 3) (pa_cons (pe_tup (pa_cons (pe_op op_catA (pv 1) (pe_tup (pa_cons (pe_tup (pa_cons (pv 4) (pa_cons (pv 2) pa_nil))) pa_nil))) (pa_cons (pe_cal c_other_ware (hr.mono (by decide)) (by rfl) (pa_cons (pv 6) (pa_cons (pv 2) pa_nil))) pa_nil))) pa_nil)))) pss_nil)))
        (pss_one (ps_ret (pv 3)))))), ?_⟩
    have glen := g.len
    obtain ⟨a, dx, t, xs, rfl, ha, ht, hs⟩ := hw
    obtain ⟨b, ps, rfl, hb, hps⟩ := hu
    have hpl := pairs_len hps
    refine ⟨by show 0 ≤ sizeLine; exact Nat.zero_le _, fun L0 hL0 => ?_⟩
    have sL := same_upd (o := .lst []) hL0
    refine ⟨_, rfl, b, rfl, ⟨_, hb.ext sL⟩, fun Du hDu => ?_⟩
    refine lc_tup (K := K) (xs := ps) (fun i H' => Same (upd H L0 (.lst [])) H' ∧ H' Du = some (.lst ((edges (r.take i)).map V.int))) ⟨same_upd hDu, upd_same⟩ (fun i H' _ h => hb.ext (sL.trans h.1)) ?_ ?_
    · rintro i z H1 hz ⟨s1, d1⟩
      obtain ⟨p, hp, hpa⟩ := pairs_get hps hz
      obtain ⟨pb, rfl, hq⟩ := hpa.same (sL.trans s1)
      have hi : i < r.length := (List.getElem?_eq_some_iff.mp hp).1
      refine ⟨pb, _, rfl, hq, rfl, _, _, rfl, _, _, rfl, rfl, rfl, yes_if ?_⟩
      refine ⟨_, rfl, _, d1, ?_, Same.mut s1 hDu, ?_⟩
      · rw [List.length_map, List.length_map, List.length_take]
        exact small1000 (by omega)
      · rw [upd_same, take_snoc hp]
        simp [edges]
    · rintro H1 ⟨s1, d1⟩
      rw [hpl, List.take_of_length_le (Nat.le_refl _)] at d1
      have sH := sL.trans s1
      have eL : H1 L0 = some (.lst []) := s1 _ _ upd_same
      have lD : L0 ≠ Du := ne_of_none upd_same hDu
      refine ⟨_, rfl, a, Cw, dx, _, _, rfl, sH _ _ ha, T.clW, T.nSta, webF_stalls n t, t, _, rfl, ht.ext sH, ?_⟩
      refine for_it (walk_enumT (K := K) (xs := xs)) (fun q σ H' => Same H H' ∧ ∃ (vs : List V) (u4 u6 : Option V), H' L0 = some (.lst vs) ∧ Paired (OnA K H') vs (onAt S r x q) ∧ H' Du = some (.lst ((edges r).map V.int)) ∧ vs.length ≤ q ∧ σ = [some (.ref a), some (.ref b), some (.int x), some (.ref L0), u4, some (.ref Du), u6, none])
        ⟨sH, [], _, _, eL, .nil, d1, Nat.le_refl _, rfl⟩ (fun i σ H' _ h => ht.ext h.1) ?_ ?_
      · rintro q pr σ H2 H3 hi ⟨s2, vs, u4, u6, e1, e2, e3, e4, rfl⟩ ⟨T0, x1, x2, rfl, hT0, rfl, f1, f2⟩
        cases f1
        obtain ⟨st, es, hst0⟩ := hs.get f2
        have hmS := List.mem_of_getElem? es
        have gs := g.good st hmS
        have hqS : q < S.length := (List.getElem?_eq_some_iff.mp es).1
        have sT := same_upd (o := .tup [.int (q : Nat), x2]) hT0
        refine ⟨T0, _, rfl, SqT.of upd_same, rfl, _, _, rfl, _, _, rfl, rfl, ?_⟩
        have hst := hst0.same (s2.trans sT)
        obtain ⟨sb, z1, z2, z3, rfl, hsb, _, _, _⟩ := id hst
        have g1 := sT _ _ e1
        have g2 : Paired (OnA K (upd H2 T0 (.tup [.int (q : Nat), .ref sb]))) vs (onAt S r x q) := Paired.mapP e2 fun _ _ h => h.same sT
        have g3 := sT _ _ e3
        have s3 := s2.trans sT
        generalize upd H2 T0 (.tup [.int (q : Nat), .ref sb]) = H3 at *
        refine ⟨_, rfl, _, rfl, 2, rfl, sb, _, rfl, hsb, (by show ¬ (HT.sIx 5 0 none = 0 ∧ HT.sIx 5 5 (some 2) = 5); decide), fun pc hpc => ?_⟩
        have sC := same_upd (o := .tup [.int st.one, .int st.other]) hpc
        have g4 := sC _ _ g1
        have g5 : Paired (OnA K (upd H3 pc (.tup [.int st.one, .int st.other]))) vs (onAt S r x q) := Paired.mapP g2 fun _ _ h => h.same sC
        have g6 := sC _ _ g3
        have s4 := s3.trans sC
        have hstC := hst.same sC
        refine ⟨pc, [.int st.one, .int st.other], rfl, .inr (SqT.of upd_same), rfl, by simp [flatV], ?_⟩
        rw [if_neg (by decide), show inV (.int x) [.int st.one, .int st.other] = decide (x ∈ [st.one, st.other]) from inV_int x [st.one, st.other]]
        refine ⟨_, rfl, ?_⟩
        have onS : onAt S r x (q + 1) = onAt S r x q ++ (if x ∈ [st.one, st.other] ∧ (q : Int) ∉ edges r then [(r ++ [((q : Int), x)], st.oth x)] else []) := by
          rw [onAt, es]
        by_cases hh : x ∈ [st.one, st.other]
        case neg =>
          refine iteN (decide_eq_false hh) ⟨s4, vs, _, _, g4, ?_, g6, by omega, rfl⟩
          rw [onS, if_neg (fun z => hh z.1), List.append_nil]
          exact g5
        refine iteY (decide_eq_true hh) ?_
        refine ⟨_, rfl, _, rfl, Du, _, rfl, .inl (SqL.of g6), rfl, by simp [flatV], ?_⟩
        rw [if_pos rfl, inV_int]
        refine ⟨_, rfl, ?_⟩
        by_cases hq : (q : Int) ∈ edges r
        · refine iteN (by simp [hq]) ⟨s4, vs, _, _, g4, ?_, g6, by omega, rfl⟩
          rw [onS, if_neg (fun z => z.2 hq), List.append_nil]
          exact g5
        · refine iteY (by simp [hq]) ⟨_, rfl, .inl ⟨rfl, _, SqL.of g4⟩, ?_⟩
          refine ⟨_, rfl, _, rfl, _, rfl, by show 2 ≤ sizeLine; decide, fun p1 hp1 => ⟨by show 1 ≤ sizeLine; decide, fun p2 hp2 => ?_⟩⟩
          have s5 := (same_upd (o := .tup [.int (q : Nat), .int x]) hp1).trans (same_upd (o := .tup [.ref p1]) hp2)
          have hp1' := (same_upd (o := .tup [.ref p1]) hp2) _ _ (upd_same (a := p1) (o := .tup [.int (q : Nat), .int x]) (H := upd H3 pc (.tup [.int st.one, .int st.other])))
          refine catQ_of (hb.ext (s4.trans s5)) (SqT.of upd_same) (by simp; omega) fun lw H6 s6 h6 => ?_
          have s56 := s5.trans s6
          refine ⟨_, rfl, _, rfl, .ref sb, st, x, rfl, hstC.same s56, by show 2 ≤ sizeLine; decide, fun pe hpe => ?_⟩
          have s7 := same_upd (o := .tup [.ref lw, .int (st.oth x)]) hpe
          have s57 := s56.trans s7
          have d7 := s57 _ _ g4
          have hk := sqT_lst (K := K) (o2 := .lst (vs ++ [.ref pe])) d7
          have hps7 := dpAll_same (s4.trans s57) hps
          have ew : WayA K (upd H6 pe (.tup [.ref lw, .int (st.oth x)])) (.ref lw) (r ++ [((q : Int), x)]) := by
            refine ⟨lw, _, rfl, h6.ext s7, ?_⟩
            rw [List.map_append]
            exact dpAll_app hps7 (.cons (.tup (SqT.of ((s6.trans s7) _ _ hp1')) (.cons (.int _) (.cons (.int _) .nil))) .nil)
          refine ⟨L0, vs, .ref pe, rfl, rfl, d7, small1000 (by omega), Same.mut (s4.trans s57) hL0, vs ++ [.ref pe], _, _, upd_same, ?_, ?_, by simp; omega, rfl⟩
          · rw [onS, if_pos ⟨hh, hq⟩]
            refine paired_app (Paired.mapP g5 fun _ _ h => (h.same s57).keep hk) (.cons ?_ .nil)
            exact OnA.keep ⟨pe, .ref lw, rfl, SqT.of upd_same, ew⟩ hk
          · rw [upd_ne (Ne.symm lD)]
            exact s57 _ _ g6
      · rintro σ H2 ⟨s2, vs, u4, u6, e1, e2, e3, e4, rfl⟩
        rw [hs.len] at e2
        exact ⟨_, rfl, k L0 vs H2 s2 hL0 e1 e2⟩
end
end K32
end

section
set_option Elab.async false
set_option linter.all false
set_option maxRecDepth 100000
set_option maxHeartbeats 4000000
/-! K32ZG: the search for rings, as plain mathematics. -/
namespace K32
theorem mem_onAt {S : List Stall} {r : Way} {x : Int} {e : Way × Int} : ∀ {m : Nat}, e ∈ onAt S r x m ↔ ∃ (i : Nat) (st : Stall), i < m ∧ S[i]? = some st ∧ st.Has x ∧ (i : Int) ∉ edges r ∧ e = (r ++ [((i : Int), x)], st.oth x)
  | 0 => by
    constructor
    · intro h
      cases h
    · rintro ⟨i, st, h, _⟩
      omega
  | m + 1 => by
    rw [onAt, List.mem_append, mem_onAt]
    constructor
    · rintro (⟨i, st, h1, h2⟩ | h)
      · exact ⟨i, st, by omega, h2⟩
      · cases es : S[m]? with
        | none =>
          rw [es] at h
          cases h
        | some st =>
          rw [es] at h
          simp only at h
          split at h
          · rename_i c
            exact ⟨m, st, by omega, es, has_iff.mp c.1, c.2, List.mem_singleton.mp h⟩
          · cases h
    · rintro ⟨i, st, h1, h2, h3, h4, h5⟩
      rcases Nat.lt_succ_iff_lt_or_eq.mp h1 with h | rfl
      · exact .inl ⟨i, st, h, h2, h3, h4, h5⟩
      · right
        rw [h2]
        simp only
        rw [if_pos ⟨has_iff.mpr h3, h4⟩]
        exact List.mem_singleton.mpr h5
theorem onAt_len (S : List Stall) (r : Way) (x : Int) : ∀ m, (onAt S r x m).length ≤ m
  | 0 => Nat.le_refl _
  | m + 1 => by
    have := onAt_len S r x m
    rw [onAt, List.length_append]
    split
    · split
      · simp; omega
      · simp; omega
    · simp; omega
/-- what waits: a way from f that comes by no ware twice -/
structure Nd (S : List Stall) (f : Int) (e : Way × Int) : Prop where
  path : Path S f e.1 e.2
  eds : (edges e.1).Nodup
  wrs : (wares e.1 ++ [e.2]).Nodup
  low : ∀ w ∈ wares e.1, f ≤ w
  lo2 : f ≤ e.2
theorem Nd.len {S : List Stall} {f : Int} {e : Way × Int} (h : Nd S f e) : e.1.length ≤ S.length := by
  have q := nodup_len (n := S.length) h.eds fun x hx => by
    obtain ⟨p, hp, rfl⟩ := List.mem_map.mp hx
    obtain ⟨st, hst, _⟩ := path_mem h.path hp
    exact ⟨(stAt_rng hst).1, (stAt_rng hst).2.1⟩
  have e1 : (edges e.1).length = e.1.length := List.length_map _
  omega
theorem nd_first (S : List Stall) (f : Int) : Nd S f ([], f) := ⟨rfl, .nil, by simp [wares], by simp [wares], Int.le_refl _⟩
/-- one step further -/
theorem Nd.longer {S : List Stall} {f : Int} {e e' : Way × Int} (h : Nd S f e) (m : e' ∈ onAt S e.1 e.2 S.length) :
    Path S f e'.1 e'.2 ∧ (edges e'.1).Nodup ∧ (wares e'.1).Nodup ∧ (∀ w ∈ wares e'.1, f ≤ w) ∧ e'.1.length = e.1.length + 1 := by
  obtain ⟨i, st, h1, h2, h3, h4, rfl⟩ := mem_onAt.mp m
  refine ⟨path_append.mpr ⟨e.2, h.path, rfl, st, by rw [stAt_nat]; exact h2, h3, rfl⟩, ?_, ?_, ?_, by simp⟩
  · rw [edges, List.map_append]
    exact nodup_snoc h.eds h4
  · rw [wares, List.map_append]
    exact h.wrs
  · intro w hw
    rw [wares, List.map_append] at hw
    rcases List.mem_append.mp hw with hw | hw
    · exact h.low w hw
    · simp at hw
      subst hw
      exact h.lo2
theorem Nd.close {S : List Stall} {f : Int} {e e' : Way × Int} (h : Nd S f e) (m : e' ∈ onAt S e.1 e.2 S.length) (c : e'.2 = f) : SRing S e'.1 := by
  obtain ⟨h1, h2, h3, _, h5⟩ := h.longer m
  exact ⟨⟨fun z => by rw [z] at h5; simp at h5, h2, f, c ▸ h1⟩, h3⟩
theorem Nd.next {S : List Stall} {f : Int} {e e' : Way × Int} (h : Nd S f e) (m : e' ∈ onAt S e.1 e.2 S.length) (c1 : f < e'.2) (c2 : e'.2 ∉ wares e'.1) : Nd S f e' := by
  obtain ⟨h1, h2, h3, h4, _⟩ := h.longer m
  exact ⟨h1, h2, nodup_snoc h3 c2, h4, Int.le_of_lt c1⟩
/-- one pair alone makes no ring -/
theorem Nd.two {n : Int} {S : List Stall} (g : Good n S) {f : Int} {e e' : Way × Int} (h : Nd S f e) (m : e' ∈ onAt S e.1 e.2 S.length) (c : e'.2 = f) : 1 < e'.1.length := by
  obtain ⟨i, st, h1, h2, h3, h4, rfl⟩ := mem_onAt.mp m
  by_cases z : e.1 = []
  · exfalso
    have p := h.path
    rw [z] at p
    have p' : f = e.2 := p
    have gs := g st (List.mem_of_getElem? h2)
    have c' : st.oth e.2 = f := c
    rw [← p'] at h3 c'
    unfold Stall.oth at c'
    have ne := gs.ne
    rcases h3 with h3 | h3
    · rw [if_pos h3] at c'
      exact ne (h3.trans c'.symm)
    · rw [if_neg (fun q => ne (q.trans h3.symm))] at c'
      exact ne (c'.trans h3.symm)
  · have : 0 < e.1.length := List.length_pos_iff.mpr z
    simp
    omega
/-- a ring that sets out from its lowest ware f -/
def NF (S : List Stall) (f : Int) (z : Way) : Prop := SRing S z ∧ ∃ p t, z = p :: t ∧ p.2 = f ∧ ∀ q ∈ t, f < q.2
theorem step_cover {S : List Stall} {f : Int} {e : Way × Int} (h : Nd S f e) {z rest : Way} (nf : NF S f z) (ez : z = e.1 ++ rest) (nr : rest ≠ []) :
    ∃ e' ∈ onAt S e.1 e.2 S.length, (e'.2 = f ∧ z = e'.1) ∨ (f < e'.2 ∧ e'.2 ∉ wares e'.1 ∧ ∃ rest', rest' ≠ [] ∧ z = e'.1 ++ rest') := by
  obtain ⟨way, here⟩ := e
  obtain ⟨sr, p, t, hz, hp, ht⟩ := nf
  obtain ⟨w, cl⟩ := sr.cl
  have hw : w = f := by
    rw [hz] at cl
    exact (path_head cl).symm.trans hp
  subst hw
  simp only at ez
  rw [ez] at cl
  obtain ⟨m, c1, c2⟩ := path_append.mp cl
  have em : m = here := path_end c1 h.path
  subst em
  match rest, nr, c2 with
  | (i, x) :: rest', _, c2 =>
    obtain ⟨e1, st, h1, h2, h3⟩ := c2
    subst e1
    obtain ⟨z0, z1, zm⟩ := stAt_rng h1
    obtain ⟨j, rfl⟩ := Int.eq_ofNat_of_zero_le z0
    rw [stAt_nat] at h1
    have nde := sr.nd
    rw [ez, List.map_append] at nde
    have ni : (j : Int) ∉ edges way := fun c => (List.nodup_append.mp nde).2.2 _ c _ (by simp) rfl
    refine ⟨(way ++ [((j : Int), x)], st.oth x), mem_onAt.mpr ⟨j, st, by omega, h1, h2, ni, rfl⟩, ?_⟩
    match rest', h3 with
    | [], h3 => exact .inl ⟨h3, ez⟩
    | (k, y) :: r'', h3 =>
      right
      have ey : y = st.oth x := h3.1
      subst ey
      have e2 : z = (way ++ [((j : Int), x)]) ++ (k, st.oth x) :: r'' := by rw [ez]; simp
      refine ⟨?_, ?_, _, by simp, e2⟩
      · have mt : (k, st.oth x) ∈ t := by
          rw [hz] at ez
          match way, ez with
          | [], ez =>
            have := (List.cons.inj ez).2
            rw [this]
            simp
          | a :: way', ez =>
            have := (List.cons.inj ez).2
            rw [this]
            simp
        exact ht _ mt
      · have sp := sr.sp
        rw [e2, List.map_append] at sp
        exact fun c => (List.nodup_append.mp sp).2.2 _ c _ (by simp) rfl

/-- how much is left to do -/
def wgt (W : List (Way × Int)) : Nat := (W.map fun e => 9 ^ (9 - e.1.length)).sum
theorem wgt_app (a b : List (Way × Int)) : wgt (a ++ b) = wgt a + wgt b := by simp [wgt]
theorem wgt_step {l : Nat} (h : l ≤ 8) : 8 * 9 ^ (9 - (l + 1)) < 9 ^ (9 - l) := by
  rw [show 9 - l = (9 - (l + 1)) + 1 by omega, Nat.pow_succ]
  have : 0 < 9 ^ (9 - (l + 1)) := Nat.pow_pos (by decide)
  omega
end K32
end

section
set_option Elab.async false
set_option linter.all false
set_option maxRecDepth 100000
set_option maxHeartbeats 4000000
/-! K32ZH: the rings of a web, walked. -/
namespace K32
open PySem PySem.Spec PyProof.Rows L2
/-! ### what waits, and what was found -/
def encE (e : Way × Int) : PyData := .tuple [encW e.1, .int e.2]
theorem OnA.dp {K : PySem.W.Frag} {H : Hp} {v : V} {e : Way × Int} (h : OnA K H v e) : Dp K H v (encE e) := by
  obtain ⟨b, wv, rfl, h1, h2⟩ := h
  exact .tup h1 (.cons h2.dp (.cons (.int _) .nil))
theorem onA_dps {K : PySem.W.Frag} {H : Hp} : ∀ {vs : List V} {W : List (Way × Int)}, Paired (OnA K H) vs W → DpAll K H vs (W.map encE)
  | _, _, .nil => .nil
  | _, _, .cons a b => .cons a.dp (onA_dps b)
theorem plain_E : ∀ W : List (Way × Int), PyData.plainAll (W.map encE) = true
  | [] => by simp [PyData.plainAll]
  | e :: W => by simp [PyData.plainAll, encE, PyData.plain, plain_W, plain_E W]
theorem depth_E : ∀ W : List (Way × Int), PyData.depthAll (W.map encE) ≤ 3
  | [] => by simp [PyData.depthAll]
  | e :: W => by
    have h1 := depth_W e.1
    have h2 := depth_E W
    simp [PyData.depthAll, encE, PyData.depth]
    omega
theorem paired_snoc {α β : Type} {R : α → β → Prop} : ∀ {W : List β} {e : β} {vs : List α}, Paired R vs (W ++ [e]) → ∃ vs' x, vs = vs' ++ [x] ∧ Paired R vs' W ∧ R x e
  | [], e, _, .cons a .nil => ⟨[], _, rfl, .nil, a⟩
  | b :: W, e, _, .cons a t => by
    obtain ⟨vs', x, rfl, h1, h2⟩ := paired_snoc (W := W) t
    exact ⟨_ :: vs', x, rfl, .cons a h1, h2⟩
theorem paired_get {α β : Type} {R : α → β → Prop} : ∀ {vs : List α} {W : List β} {i : Nat} {x : α}, Paired R vs W → vs[i]? = some x → ∃ e, W[i]? = some e ∧ R x e
  | _, _, _, _, .nil, h => by simp at h
  | _, _, 0, _, .cons a _, h => by
    simp at h
    subst h
    exact ⟨_, rfl, a⟩
  | _, _, i + 1, x, .cons _ t, h => by
    obtain ⟨e, h1, h2⟩ := paired_get (i := i) (x := x) t (by simpa using h)
    exact ⟨e, by simpa using h1, h2⟩
def RH (K : PySem.W.Frag) (P : Program) (w : World) (H : Hp) (d Wt : Addr) (Lp : List (Way × Addr)) (vs : List V) (W : List (Way × Int)) : Prop :=
  H d = some (RingO P w d Lp) ∧ KeysAt K H Lp ∧ H Wt = some (.lst vs) ∧ Paired (OnA K H) vs W
theorem keys_keep {K : PySem.W.Frag} {H H' : Hp} {Lp : List (Way × Addr)} (h : KeysAt K H Lp) (hk : ∀ b xs, SqT K H b xs → SqT K H' b xs) : KeysAt K H' Lp := fun x m => dp_keep hk (h x m) (tupOnly_W _)
theorem RH.same {K : PySem.W.Frag} {P : Program} {w : World} {H H' : Hp} {d Wt : Addr} {Lp : List (Way × Addr)} {vs : List V} {W : List (Way × Int)} (h : RH K P w H d Wt Lp vs W) (e : Same H H') : RH K P w H' d Wt Lp vs W :=
  ⟨e _ _ h.1, keys_keep h.2.1 fun b xs q => q.ext e, e _ _ h.2.2.1, Paired.mapP h.2.2.2 fun _ _ q => q.same e⟩
theorem RH.set {K : PySem.W.Frag} {P : Program} {w : World} {H : Hp} {d Wt : Addr} {Lp : List (Way × Addr)} {vs vs' : List V} {W W' : List (Way × Int)} (h : RH K P w H d Wt Lp vs W) (q : Paired (OnA K H) vs' W') :
    RH K P w (upd H Wt (.lst vs')) d Wt Lp vs' W' := by
  obtain ⟨h1, h2, h3, h4⟩ := h
  have hk := sqT_lst (K := K) (o2 := .lst vs') h3
  exact ⟨by rw [upd_ne (ne_of h1 h3 (fun z => nomatch z))]; exact h1, keys_keep h2 hk, upd_same, Paired.mapP q fun _ _ z => z.keep hk⟩
theorem sqT_ring {K : PySem.W.Frag} {P : Program} {w : World} {H : Hp} {d : Addr} {Lp : List (Way × Addr)} {o2 : HO} (h : H d = some (RingO P w d Lp)) : ∀ b xs, SqT K H b xs → SqT K (upd H d o2) b xs := sqT_upd h (fun _ z => nomatch z) (fun _ _ z => nomatch z)
theorem mem_putR {L : List (Way × Addr)} {r : Way} {a : Addr} {x : Way × Addr} (h : x ∈ putR L r a) : x ∈ L ∨ x = (r, a) := by
  unfold putR at h
  split at h
  · exact .inl h
  · rcases List.mem_append.mp h with h | h
    · exact .inl h
    · exact .inr (List.mem_singleton.mp h)
theorem RH.put {K : PySem.W.Frag} {P : Program} {w : World} {H : Hp} {d Wt : Addr} {Lp : List (Way × Addr)} {vs : List V} {W : List (Way × Int)} (h : RH K P w H d Wt Lp vs W) {r : Way} {b : Addr} (hb : Dp K H (.ref b) (encW r)) :
    RH K P w (upd H d (RingO P w d (putR Lp r b))) d Wt (putR Lp r b) vs W := by
  obtain ⟨h1, h2, h3, h4⟩ := h
  have hk := sqT_ring (K := K) (o2 := RingO P w d (putR Lp r b)) h1
  refine ⟨upd_same, fun x m => ?_, by rw [upd_ne (ne_of h3 h1 (fun z => nomatch z))]; exact h3, Paired.mapP h4 fun _ _ z => z.keep hk⟩
  rcases mem_putR m with m | rfl
  · exact dp_keep hk (h2 x m) (tupOnly_W _)
  · exact dp_keep hk hb (tupOnly_W _)
abbrev fnd (Lp : List (Way × Addr)) : List Way := Lp.map (·.1)
/-- the ways found -/
structure RM (S : List Stall) (Lp : List (Way × Addr)) : Prop where
  nd : (Lp.map (·.1)).Nodup
  can : ∀ r ∈ Lp.map (·.1), Canon S r
theorem RM.few {n : Int} {S : List Stall} {Lp : List (Way × Addr)} (h : RM S Lp) (g : GoodW n S) : Lp.length ≤ 128 := by
  have := canon_count g.good g.len h.nd h.can
  rwa [List.length_map] at this
theorem putR_old {Lp : List (Way × Addr)} {r : Way} {a : Addr} {y : Way} (h : y ∈ Lp.map (·.1)) : y ∈ (putR Lp r a).map (·.1) := by
  unfold putR
  split
  · exact h
  · rw [List.map_append]
    exact List.mem_append_left _ h
theorem putR_new {Lp : List (Way × Addr)} {r : Way} {a : Addr} : r ∈ (putR Lp r a).map (·.1) := by
  unfold putR
  split
  · assumption
  · rw [List.map_append]
    exact List.mem_append_right _ (by simp)
theorem RM.put {S : List Stall} {Lp : List (Way × Addr)} (h : RM S Lp) {r : Way} (c : Canon S r) (a : Addr) : RM S (putR Lp r a) := by
  unfold putR
  split
  · exact h
  · rename_i hn
    refine ⟨?_, fun y hy => ?_⟩
    · rw [List.map_append, List.nodup_append]
      refine ⟨h.nd, by simp, ?_⟩
      rintro x hx y hy rfl
      simp at hy
      subst hy
      exact hn hx
    · rw [List.map_append] at hy
      rcases List.mem_append.mp hy with hy | hy
      · exact h.can y hy
      · simp at hy
        subst hy
        exact c
theorem keys_dps {K : PySem.W.Frag} {H : Hp} : ∀ {Lp : List (Way × Addr)}, KeysAt K H Lp → DpAll K H (Lp.map fun x => V.ref x.2) ((fnd Lp).map encW)
  | [], _ => .nil
  | x :: Lp, h => .cons (h x List.mem_cons_self) (keys_dps fun y m => h y (List.mem_cons_of_mem _ m))
/-- this way will be found -/
def Hit (f : Int) (z : Way) (e : Way × Int) : Prop := (e.2 = f ∧ z = e.1) ∨ (f < e.2 ∧ e.2 ∉ wares e.1 ∧ ∃ rest, rest ≠ [] ∧ z = e.1 ++ rest)
section
variable {P : Program} {w : World} {K : PySem.W.Frag} {mg : Str → Option Value} {base : Heap} {C Cw : Addr}

abbrev st_rings : Stmt := topS 41
theorem sc_rings : FnScope ["web", "found", "first", "waiting", "way", "here", "longer", "there", "index", "ware"] ["web"] (defScope st_rings) := ⟨rfl, rfl, rfl, by decide +kernel, rfl, by decide +kernel, by decide +kernel⟩
def WaysA (K : PySem.W.Frag) (H : Hp) (vs : List V) (L : List Way) : Prop := DpAll K H vs (L.map encW)
theorem WaysA.len {K : PySem.W.Frag} {H : Hp} {vs : List V} {L : List Way} (h : WaysA K H vs L) : vs.length = L.length := by
  have := dpAll_len h
  rwa [List.length_map] at this
theorem WaysA.get {K : PySem.W.Frag} {H : Hp} {vs : List V} {L : List Way} (h : WaysA K H vs L) {i : Nat} {x : V} (e : vs[i]? = some x) : ∃ r, L[i]? = some r ∧ WayA K H x r := by
  obtain ⟨d, h1, h2⟩ := dpAll_get' h e
  rw [List.getElem?_map] at h1
  obtain ⟨p, hp, rfl⟩ := Option.map_eq_some_iff.mp h1
  exact ⟨p, hp, way_of h2⟩
structure RingsOf (S : List Stall) (L : List Way) : Prop where
  each : ∀ r ∈ L, SRing S r
  all : ∀ z, SRing S z → ∃ r ∈ L, (∀ x, x ∈ edges r ↔ x ∈ edges z) ∧ (Uneven S r ↔ Uneven S z)
  few : L.length ≤ 128
def spRings (K : PySem.W.Frag) (Cw : Addr) : Sp := fun vs H Q _ => ∃ (v : V) (n : Int) (S : List Stall), vs = [v] ∧ WebA K Cw H v n S ∧ GoodW n S ∧
  ∀ l vs' L H', Same H H' → H' l = some (.lst vs') → WaysA K H' vs' L → RingsOf S L → Q (.ref l) H'
theorem ok_rings (D : Def K mg "rings" st_rings ["web"]) (T : Txt K mg C Cw) (c_ways_on : Cal P w K mg base "ways_on" 2 ["web", "way", "here"] (spOn K Cw)) (c_least_way : Cal P w K mg base "least_way" 3 ["web", "ring"] (spLeast K Cw)) :
    Cal P w K mg base "rings" 4 ["web"] (spRings K Cw) := by
  refine D.ok sc_rings (fun vs H Q E h => ?_) (fun f cdv A outer s H vs Q E hr h => ?_)
  · obtain ⟨v, n, S, rfl, _⟩ := h
    rfl
  · obtain ⟨v, n, S, rfl, hw, g, k⟩ := h
    refine ⟨_, (pss_cons (ps_set (i := 1) sc_rings.nd rfl (Or.inl rfl) pe_dnewR)
        (pss_cons (ps_for PassesOwn.never rfl (pi_range1 (by rfl) T.z_range (pa_cons (pe_fld (pv 0) rfl) pa_nil)) (pg_name (i := 2) sc_rings.nd rfl (Or.inl rfl)) (pss_cons (ps_set (i := 3) sc_rings.nd rfl (Or.inl rfl) (pe_lst (pa_cons (pe_tup (pa_cons (pe_tup pa_nil) (pa_cons (pv 2) pa_nil))) pa_nil)))
        (pss_one (ps_while PassesOwn.never (pt_cmpR (op_neP (u62 hr)) (pv 3) (pe_lst pa_nil) (nomark _)) (pss_cons (ps_asg (pe_bm0 PySem.F.plainAttrs_list PySem.F.slot_list_pop PySem.F.type_list_pop mt_pop (pv 3)) (pg_tup (n := 2) rfl (pgs_cons (pg_name (i := 4) sc_rings.nd rfl (Or.inl rfl)) (pgs_cons (pg_name (i := 5) sc_rings.nd rfl (Or.inl rfl)) pgs_nil))))
        (pss_one (ps_for PassesOwn.never rfl (pi_list (pe_cal c_ways_on (hr.mono (by decide)) (by rfl) (pa_cons (pv 0) (pa_cons (pv 4) (pa_cons (pv 5) pa_nil))))) (pg_tup (n := 2) rfl (pgs_cons (pg_name (i := 6) sc_rings.nd rfl (Or.inl rfl)) (pgs_cons (pg_name (i := 7) sc_rings.nd rfl (Or.inl rfl)) pgs_nil))) (pss_one (ps_if (PW.pt (pw_and (pt_cmpR op_eq (pv 7) (pv 2) (nomark _)) (pw_and1 (pt_cmpR op_gt (pe_callB call_len_seq (by rfl) T.z_len (by decide +kernel) (pa_cons (pv 6) pa_nil)) pe_int (nomark _))))) (pss_cons (ps_dputR (u62 hr) (pv 1) (pe_cal c_least_way (hr.mono (by decide)) (by rfl) (pa_cons (pv 0) (pa_cons (pv 6) pa_nil))) pe_bl)
        (pss_one (ps_if (pt_cmpR op_gt (pe_callB call_lenR (by rfl) T.z_len (by decide +kernel) (pa_cons (pv 1) pa_nil)) (pe_glob (by rfl) T.m_MOST_RINGS T.r_MOST_RINGS) (nomark _)) (pss_one ps_never) pss_nil))) (pss_one (ps_if (PW.pt (pw_and (pt_cmpR op_gt (pv 7) (pv 2) (nomark _)) (pw_and1 (pt_cmpR op_notIn_seq (pv 7) (pe_lc (own := [("index", 8), ("ware", 9)]) (by rfl) sc_rings.nd (pi_tup (pv 6)) (blkOk_by (own := [("index", 8), ("ware", 9)]) (by kernel_rfl)) (fun _ _ _ _ _ => (tupG_in (n := 2) (K := K) rfl rfl (pgs_cons (pg_name (i := 8) sc_rings.nd rfl (Or.inl rfl)) (pgs_cons (pg_name (i := 9) sc_rings.nd rfl (Or.inl rfl)) pgs_nil)))) (fun _ _ _ _ _ => pts_nil) (fun _ _ _ _ _ => (pv 9))) (by rfl))))) (pss_one (ps_expr (pe_bm PySem.F.plainAttrs_list PySem.F.slot_list_append PySem.F.type_list_append mt_append (pv 3) (pa_cons (pe_tup (pa_cons (pv 6) (pa_cons (pv 7) pa_nil))) pa_nil)))) pss_nil)))))))))))
        (pss_one (ps_ret (pe_callB (cr_sortedD (enc := encW) alike_W (fun b => Nat.le_trans (depth_W b) (by decide)) (u62 hr)) (by rfl) T.z_sorted (by decide +kernel) (pa_cons (pe_callTy (call_listR rfl) (by rfl) T.z_list (by decide +kernel) (pa_cons (pv 1) pa_nil)) pa_nil)))))), ?_⟩
    have g1 := g.n1
    have g8 := g.n8
    have glen := g.len
    intro d hd
    have sd := same_upd (o := RingO P w d []) hd
    have ed : upd H d (RingO P w d []) d = some (RingO P w d []) := upd_same
    obtain ⟨a, dx, t, xs, rfl, ha, ht, hs⟩ := id hw
    refine ⟨_, rfl, a, Cw, dx, _, _, rfl, sd _ _ ha, T.clW, T.nWar, webF_wares n t, n, rfl, by omega, by omega, ?_⟩
    refine for_range (fun i σ H' => Same H H' ∧ ∃ (Lp : List (Way × Addr)) (u2 u3 u4 u5 u6 u7 : Option V), H' d = some (RingO P w d Lp) ∧ KeysAt K H' Lp ∧ RM S Lp ∧ (∀ f : Int, 0 ≤ f → f < i → ∀ z, NF S f z → leastWay S z ∈ fnd Lp) ∧
      σ = [some (.ref a), some (.ref d), u2, u3, u4, u5, u6, u7, none, none]) ⟨sd, [], _, _, _, _, _, _, ed, (fun x m => by cases m), ⟨by simp, fun r m => by simp at m⟩, fun f h0 h1 => by omega, rfl⟩ ?_ ?_
    · rintro i σ H1 hi ⟨s1, Lp, u2, u3, u4, u5, u6, u7, hd1, hk1, hm1, hc1, rfl⟩
      rw [Int.zero_add]
      refine ⟨by show 0 ≤ sizeLine; exact Nat.zero_le _, fun t0 ht0 => ?_⟩
      refine ⟨_, rfl, by show 2 ≤ sizeLine; decide, fun t1 ht1 => ⟨by show 1 ≤ sizeLine; decide, fun Wt hWt => ?_⟩⟩
      have s3 := ((same_upd (o := .tup []) ht0).trans (same_upd (o := .tup [.ref t0, .int (i : Nat)]) ht1)).trans (same_upd (o := .lst [.ref t1]) hWt)
      have s13 := s1.trans s3
      have et0 := ((same_upd (o := .tup [.ref t0, .int (i : Nat)]) ht1).trans (same_upd (o := .lst [.ref t1]) hWt)) t0 _ upd_same
      have et1 := (same_upd (o := .lst [.ref t1]) hWt) t1 _ upd_same
      have hWtH : H Wt = none := (s1.trans ((same_upd (o := .tup []) ht0).trans (same_upd (o := .tup [.ref t0, .int (i : Nat)]) ht1))).free hWt
      have r0 : RH K P w _ d Wt Lp [.ref t1] [([], (i : Int))] := ⟨s3 _ _ hd1, keys_keep hk1 fun b xs q => q.ext s3, upd_same, .cons ⟨t1, .ref t0, rfl, SqT.of et1, t0, [], rfl, SqT.of et0, .nil⟩ .nil⟩
      refine ⟨fun m σ H' => Same H H' ∧ ∃ (Lp : List (Way × Addr)) (vs : List V) (W : List (Way × Int)) (u4 u5 u6 u7 : Option V), RH K P w H' d Wt Lp vs W ∧ RM S Lp ∧ (∀ f : Int, 0 ≤ f → f < i → ∀ z, NF S f z → leastWay S z ∈ fnd Lp) ∧
        (∀ e ∈ W, Nd S i e) ∧ (∀ (j : Nat) e, W[j]? = some e → j ≤ 8 * e.1.length) ∧ (∀ z, NF S i z → leastWay S z ∈ fnd Lp ∨ ∃ e ∈ W, ∃ rest, rest ≠ [] ∧ z = e.1 ++ rest) ∧
        σ = [some (.ref a), some (.ref d), some (.int i), some (.ref Wt), u4, u5, u6, u7, none, none] ∧ m = wgt W, ⟨_, s13, Lp, [.ref t1], [([], (i : Int))], _, _, _, _, r0, hm1, hc1, fun e m => ?_, fun j e hj => ?_, fun z nf => .inr ⟨_, List.mem_singleton.mpr rfl, z, ?_, rfl⟩, rfl, rfl⟩, ?_⟩
      · rw [List.mem_singleton.mp m]
        exact nd_first S i
      · have := (List.getElem?_eq_some_iff.mp hj).1
        simp at this
        omega
      · exact nf.1.ne
      · clear r0 et0 et1 hk1 hd1 hm1 hc1 hWt ht1 ht0 s3 s13
        rintro m σ H2 ⟨s2, Lp, vs, W, u4, u5, u6, u7, hR, hm, hc, hnd, hpos, hcov, rfl, rfl⟩
        refine wait_test rfl hR.2.2.1 (onA_dps hR.2.2.2) (plain_E W) (Nat.le_trans (depth_E W) (by decide)) fun H3 s3 => ?_
        have hR3 := hR.same s3
        have s23 := s2.trans s3
        rcases List.eq_nil_or_concat W with rfl | ⟨W', e, rfl⟩
        · refine iteF ⟨s23, Lp, _, _, _, _, _, _, hR3.1, hR3.2.1, hm, fun f h0 h1 z nf => ?_, rfl⟩
          rcases Int.lt_or_eq_of_le (show f ≤ i by omega) with c | rfl
          · exact hc f h0 c z nf
          · rcases hcov z nf with h | ⟨e, m, _⟩
            · exact h
            · cases m
        · have hne : (!((W'.concat e).map encE).isEmpty) = true := by simp
          refine iteY hne ⟨fun σ' H' => ∃ m', m' < _ ∧ _, fun σ' H' z => z, ?_⟩
          rw [List.concat_eq_append] at hR3 hnd hpos hcov ⊢
          obtain ⟨vs', x, rfl, hpw, hxe⟩ := paired_snoc hR3.2.2.2
          have e3 := hR3.2.2.1
          refine ⟨_, rfl, .inl ⟨rfl, _, SqL.of e3⟩, Wt, _, x, rfl, rfl, e3, by simp, ?_⟩
          rw [List.dropLast_concat]
          have hR4 := hR3.set hpw
          have hk4 := sqT_lst (K := K) (o2 := .lst vs') e3
          obtain ⟨b, wv, rfl, hb, hwv⟩ := hxe.keep hk4
          have s4 : Same H (upd H3 Wt (.lst vs')) := Same.mut s23 hWtH
          generalize upd H3 Wt (.lst vs') = H4 at *
          have hNe : Nd S i e := hnd e (by simp)
          have hel : e.1.length ≤ 8 := Nat.le_trans hNe.len glen
          have hRn : W'.length ≤ 8 * e.1.length := hpos W'.length e (by simp)
          refine ⟨b, _, rfl, hb, rfl, _, _, rfl, _, _, rfl, rfl, ?_⟩
          refine ⟨_, rfl, _, rfl, _, rfl, .ref a, wv, n, S, e.1, e.2, rfl, hw.same s4, g, hwv, hel, fun l vs2 H5 s5 lf hl2 hp2 => ⟨l, rfl, ⟨_, SqL.of hl2⟩, ?_⟩⟩
          have hR5 := hR4.same s5
          have lW : l ≠ Wt := fun z => by rw [z, hR4.2.2.1] at lf; cases lf
          have ld : l ≠ d := fun z => by rw [z, hR4.1] at lf; cases lf
          have hlen2 : vs2.length = (onAt S e.1 e.2 S.length).length := Paired.length hp2
          have hon8 := onAt_len S e.1 e.2 S.length
          refine for_list (K := K) (xs := vs2) (fun q σ H' => Same H H' ∧ ∃ (Lp : List (Way × Addr)) (vs : List V) (W : List (Way × Int)) (u6 u7 : Option V), RH K P w H' d Wt Lp vs W ∧ RM S Lp ∧ (∀ f : Int, 0 ≤ f → f < i → ∀ z, NF S f z → leastWay S z ∈ fnd Lp) ∧
            (∀ e ∈ W, Nd S i e) ∧ (∀ (j : Nat) e, W[j]? = some e → j ≤ 8 * e.1.length) ∧ H' l = some (.lst vs2) ∧ Paired (OnA K H') vs2 (onAt S e.1 e.2 S.length) ∧ W.length ≤ W'.length + q ∧ wgt W ≤ wgt W' + q * 9 ^ (9 - (e.1.length + 1)) ∧
            (∀ z, NF S i z → leastWay S z ∈ fnd Lp ∨ (∃ e ∈ W, ∃ rest, rest ≠ [] ∧ z = e.1 ++ rest) ∨ ∃ j e', q ≤ j ∧ (onAt S e.1 e.2 S.length)[j]? = some e' ∧ Hit i z e') ∧
            σ = [some (.ref a), some (.ref d), some (.int i), some (.ref Wt), some wv, some (.int e.2), u6, u7, none, none]) ?_ (fun q σ H' _ h => ?_) ?_ ?_
          · refine ⟨s4.trans s5, Lp, vs', W', _, _, hR5, hm, hc, fun e' m => hnd e' (by simp [m]), fun j e' hj => hpos j e' ?_, hl2, hp2, by omega, by simp, fun z nf => ?_, rfl⟩
            · have := (List.getElem?_eq_some_iff.mp hj).1
              rw [List.getElem?_append_left this]
              exact hj
            · rcases hcov z nf with h | ⟨e', m, rest, nr, ez⟩
              · exact .inl h
              · rcases List.mem_append.mp m with m | m
                · exact .inr (.inl ⟨e', m, rest, nr, ez⟩)
                · rw [List.mem_singleton.mp m] at ez
                  obtain ⟨e2, m2, hh⟩ := step_cover hNe nf ez nr
                  obtain ⟨j, hj⟩ := List.getElem?_of_mem m2
                  exact .inr (.inr ⟨j, e2, Nat.zero_le _, hj, hh⟩)
          · obtain ⟨_, _, _, _, _, _, _, _, _, _, _, h, _⟩ := h
            exact SqL.of h
          · rintro q x σ H6 hx ⟨s6, Lp, vs, W, u6, u7, hR6, hm, hc, hnd, hpos, hl6, hp6, hWl, hwg, hcov, rfl⟩
            obtain ⟨e', he', b', wv', rfl, hb', hwv'⟩ := paired_get hp6 hx
            have hm' := List.mem_of_getElem? he'
            have hq8 : q < 8 := by
              have := (List.getElem?_eq_some_iff.mp hx).1
              omega
            obtain ⟨lp1, lp2, lp3, lp4, lp5⟩ := hNe.longer hm'
            obtain ⟨la, lvs, rfl, hla, hlp⟩ := id hwv'
            have hlvs := pairs_len hlp
            have hwg' : wgt W ≤ wgt W' + (q + 1) * 9 ^ (9 - (e.1.length + 1)) := Nat.le_trans hwg (Nat.add_le_add_left (Nat.mul_le_mul_right _ (Nat.le_succ q)) _)
            have other : (∀ z, Hit i z e' → False) → ∀ z, NF S i z → leastWay S z ∈ fnd Lp ∨ (∃ e ∈ W, ∃ rest, rest ≠ [] ∧ z = e.1 ++ rest) ∨ ∃ j e', q + 1 ≤ j ∧ (onAt S e.1 e.2 S.length)[j]? = some e' ∧ Hit i z e' := fun no z nf => by
              rcases hcov z nf with h | h | ⟨j, e2, hj, he2, hh⟩
              · exact .inl h
              · exact .inr (.inl h)
              · by_cases cj : j = q
                · subst cj
                  rw [he'] at he2
                  cases he2
                  exact (no z hh).elim
                · exact .inr (.inr ⟨j, e2, by omega, he2, hh⟩)
            refine ⟨b', _, rfl, hb', rfl, _, _, rfl, _, _, rfl, rfl, ?_⟩
            refine ⟨_, rfl, _, rfl, rfl, _, rfl, ?_⟩
            by_cases ce : e'.2 = (i : Int)
            · have h2 := Nd.two g.good hNe hm' ce
              have hsr := hNe.close hm' ce
              refine iteY (decide_eq_true (by rw [ce])) ⟨_, rfl, la, lvs, rfl, .inr hla, _, _, rfl, rfl, _, rfl, iteY (decide_eq_true (by omega)) ?_⟩
              refine ⟨_, rfl, _, rfl, _, rfl, .ref a, .ref la, n, S, e'.1, rfl, hw.same s6, g, hwv', hsr.toRing, fun y H7 s7 hy => ?_⟩
              obtain ⟨ya, yvs, rfl, hya, hyp⟩ := id hy
              have hR7 := hR6.same s7
              refine ⟨d, ya, Lp, leastWay S e'.1, rfl, rfl, rfl, hR7.1, hR7.2.1, hy.dp, by have := hm.few g; omega, ?_⟩
              have hR8 := hR7.put hy.dp
              have hk8 := sqT_ring (K := K) (o2 := RingO P w d (putR Lp (leastWay S e'.1) ya)) hR7.1
              have hm8 := hm.put (leastWay_canon g.good hsr) ya
              have h128 := hm8.few g
              have hl8 : upd H7 d (RingO P w d (putR Lp (leastWay S e'.1) ya)) l = some (.lst vs2) := by
                rw [upd_ne ld]
                exact s7 _ _ hl6
              have hp8 : Paired (OnA K (upd H7 d (RingO P w d (putR Lp (leastWay S e'.1) ya)))) vs2 (onAt S e.1 e.2 S.length) := Paired.mapP hp6 fun _ _ z => (z.same s7).keep hk8
              have s8 : Same H (upd H7 d (RingO P w d (putR Lp (leastWay S e'.1) ya))) := Same.mut (s6.trans s7) hd
              refine ⟨_, rfl, d, _, rfl, hR8.1, hR8.2.1, by omega, _, _, rfl, rfl, _, rfl, iteN (decide_eq_false (by omega)) ?_⟩
              refine ⟨s8, putR Lp (leastWay S e'.1) ya, vs, W, _, _, hR8, hm8, fun f h0 h1 z nf => putR_old (hc f h0 h1 z nf), hnd, hpos, hl8, hp8, by omega, hwg', fun z nf => ?_, rfl⟩
              rcases hcov z nf with h | h | ⟨j, e2, hj, he2, hh⟩
              · exact .inl (putR_old h)
              · exact .inr (.inl h)
              · by_cases cj : j = q
                · subst cj
                  rw [he'] at he2
                  cases he2
                  rcases hh with ⟨_, ez⟩ | ⟨hlt, _⟩
                  · rw [ez]
                    exact .inl putR_new
                  · omega
                · exact .inr (.inr ⟨j, e2, by omega, he2, hh⟩)
            · refine iteN (decide_eq_false fun z => ce (V.int.inj z)) ?_
              refine iteF ⟨_, rfl, _, rfl, _, _, rfl, rfl, _, rfl, ?_⟩
              by_cases cl : (i : Int) < e'.2
              case neg =>
                refine iteN (decide_eq_false cl) ⟨s6, Lp, vs, W, _, _, hR6, hm, hc, hnd, hpos, hl6, hp6, by omega, hwg', other fun z hh => ?_, rfl⟩
                rcases hh with ⟨c, _⟩ | ⟨c, _⟩
                · exact ce c
                · exact cl c
              refine iteY (decide_eq_true cl) ⟨_, rfl, _, rfl, la, rfl, ⟨_, hla⟩, fun D hD => ?_⟩
              refine lc_tup (K := K) (xs := lvs) (fun j H' => Same H6 H' ∧ H' D = some (.lst ((wares (e'.1.take j)).map V.int))) ⟨same_upd hD, upd_same⟩ (fun j H' _ h => hla.ext h.1) ?_ ?_
              · rintro j y H7 hy ⟨s7, d7⟩
                obtain ⟨p, hp, hpa⟩ := pairs_get hlp hy
                obtain ⟨pb, rfl, hpq⟩ := hpa.same s7
                have hj : j < e'.1.length := (List.getElem?_eq_some_iff.mp hp).1
                refine ⟨pb, _, rfl, hpq, rfl, _, _, rfl, _, _, rfl, rfl, rfl, yes_if ?_⟩
                refine ⟨_, rfl, _, d7, ?_, Same.mut s7 hD, ?_⟩
                · rw [List.length_map, List.length_map, List.length_take]
                  exact small1000 (by omega)
                · rw [upd_same, take_snoc hp]
                  simp [wares]
              · rintro H7 ⟨s7, d7⟩
                rw [hlvs, List.take_of_length_le (Nat.le_refl _)] at d7
                have hR7 := hR6.same s7
                have hl7 := s7 _ _ hl6
                have hp7 : Paired (OnA K H7) vs2 (onAt S e.1 e.2 S.length) := Paired.mapP hp6 fun _ _ z => z.same s7
                refine ⟨D, _, rfl, .inl (SqL.of d7), rfl, by simp [flatV], ?_⟩
                rw [if_pos rfl, inV_int]
                refine ⟨_, rfl, ?_⟩
                by_cases cw : e'.2 ∈ wares e'.1
                · refine iteN (by simp [cw]) ⟨s6.trans s7, Lp, vs, W, _, _, hR7, hm, hc, hnd, hpos, hl7, hp7, by omega, hwg', other fun z hh => ?_, rfl⟩
                  rcases hh with ⟨c, _⟩ | ⟨_, c, _⟩
                  · exact ce c
                  · exact c cw
                · refine iteY (by simp [cw]) ⟨_, rfl, .inl ⟨rfl, _, SqL.of hR7.2.2.1⟩, _, rfl, _, rfl, by show 2 ≤ sizeLine; decide, fun pe hpe => ?_⟩
                  have s8 := same_upd (o := .tup [.ref la, .int e'.2]) hpe
                  have hR8 := hR7.same s8
                  have hon : OnA K (upd H7 pe (.tup [.ref la, .int e'.2])) (.ref pe) e' := ⟨pe, .ref la, rfl, SqT.of upd_same, hwv'.same (s7.trans s8)⟩
                  have hvl := Paired.length hR8.2.2.2
                  have hR9 := hR8.set (paired_app hR8.2.2.2 (.cons hon .nil))
                  have hk9 := sqT_lst (K := K) (o2 := .lst (vs ++ [.ref pe])) hR8.2.2.1
                  refine ⟨Wt, vs, .ref pe, rfl, rfl, hR8.2.2.1, small1000 (by omega), Same.mut (s6.trans (s7.trans s8)) hWtH, Lp, _, W ++ [e'], _, _, hR9, hm, hc, fun e2 m2 => ?_, fun j e2 hj => ?_, ?_, Paired.mapP hp7 fun _ _ z => (z.same s8).keep hk9, by simp; omega, ?_, fun z nf => ?_, rfl⟩
                  · rcases List.mem_append.mp m2 with m2 | m2
                    · exact hnd e2 m2
                    · rw [List.mem_singleton.mp m2]
                      exact hNe.next hm' cl cw
                  · by_cases cj : j < W.length
                    · rw [List.getElem?_append_left cj] at hj
                      exact hpos j e2 hj
                    · have hj2 := (List.getElem?_eq_some_iff.mp hj).1
                      simp at hj2
                      have ej : j = W.length := by omega
                      subst ej
                      rw [List.getElem?_append_right (Nat.le_refl _), Nat.sub_self] at hj
                      cases hj
                      omega
                  · rw [upd_ne lW]
                    exact s8 _ _ hl7
                  · rw [wgt_app]
                    have e1 : wgt [e'] = 9 ^ (9 - (e.1.length + 1)) := by simp [wgt, lp5]
                    rw [e1, Nat.succ_mul]
                    omega
                  · rcases hcov z nf with h | ⟨e2, m2, h⟩ | ⟨j, e2, hj, he2, hh⟩
                    · exact .inl h
                    · exact .inr (.inl ⟨e2, List.mem_append_left _ m2, h⟩)
                    · by_cases cj : j = q
                      · subst cj
                        rw [he'] at he2
                        cases he2
                        rcases hh with ⟨c, _⟩ | ⟨_, _, h⟩
                        · exact absurd c ce
                        · exact .inr (.inl ⟨e', List.mem_append_right _ (by simp), h⟩)
                      · exact .inr (.inr ⟨j, e2, by omega, he2, hh⟩)
          · rintro σ H6 ⟨s6, Lp, vs, W, u6, u7, hR6, hm, hc, hnd, hpos, hl6, hp6, hWl, hwg, hcov, rfl⟩
            refine ⟨wgt W, ?_, s6, Lp, vs, W, _, _, _, _, hR6, hm, hc, hnd, hpos, fun z nf => ?_, rfl, rfl⟩
            · rw [wgt_app]
              have e1 : wgt [e] = 9 ^ (9 - e.1.length) := by simp [wgt]
              have e2 := wgt_step hel
              have e3 : vs2.length * 9 ^ (9 - (e.1.length + 1)) ≤ 8 * 9 ^ (9 - (e.1.length + 1)) := Nat.mul_le_mul_right _ (by omega)
              omega
            · rcases hcov z nf with h | h | ⟨j, e', hj, he, _⟩
              · exact .inl h
              · exact .inr h
              · have := (List.getElem?_eq_some_iff.mp he).1
                omega
    · rintro σ H1 ⟨s1, Lp, u2, u3, u4, u5, u6, u7, hd1, hk1, hm1, hc1, rfl⟩
      have h128 := hm1.few g
      refine ⟨_, rfl, d, Lp, rfl, hd1, hk1, by omega, fun p hp => ?_⟩
      have sp := same_upd (o := .lst (Lp.map fun x => V.ref x.2)) hp
      refine ⟨p, _, fnd Lp, rfl, SqL.of upd_same, ?_, ?_, fun ys q hys hq => ?_⟩
      · exact keys_dps (keys_keep hk1 fun b xs q => q.ext sp)
      · left
        intro dd hdd
        obtain ⟨r, hr, rfl⟩ := List.mem_map.mp hdd
        have ne := (hm1.can r hr).ne
        match r, ne with
        | p :: r', _ => exact ⟨encP p, r'.map encP, rfl⟩
      · have hperm := List.mergeSort_perm (fnd Lp) (PySem.W.dataLe false encW)
        refine k q ys _ _ ((s1.trans sp).trans (same_upd hq)) upd_same (dpAll_same (same_upd hq) hys) ⟨fun r m => ?_, fun z hz => ?_, ?_⟩
        · exact (hm1.can r (hperm.mem_iff.mp m)).toSRing
        · obtain ⟨p, t', q1, q2, q3, q4⟩ := ring_low hz
          obtain ⟨st, hst, hh⟩ := q1.toRing.at (List.mem_cons_self (a := p) (l := t'))
          have hin := has_in (g.good st (stAt_rng hst).2.2) hh
          have hl := hc1 p.2 hin.1 (by omega) (p :: t') ⟨q1, p, t', rfl, rfl, q2⟩
          have sr := ways_same g.good (leastWay_mem (S := S) q1.ne)
          exact ⟨leastWay S (p :: t'), hperm.mem_iff.mpr hl, fun x => (sr.edg x).trans (q3 x), (sr.un q1).trans q4⟩
        · rw [hperm.length_eq, List.length_map]
          exact h128

abbrev st_uneven_rings : Stmt := topS 42
theorem sc_uneven_rings : FnScope ["web", "ring"] ["web"] (defScope st_uneven_rings) := ⟨rfl, rfl, rfl, by decide +kernel, rfl, by decide +kernel, by decide +kernel⟩
def spUnevens (K : PySem.W.Frag) (Cw : Addr) : Sp := fun vs H Q _ => ∃ (v : V) (n : Int) (S : List Stall), vs = [v] ∧ WebA K Cw H v n S ∧ GoodW n S ∧
  ∀ l vs' L H', Same H H' → H' l = some (.lst vs') → WaysA K H' vs' L → (∀ r ∈ L, SRing S r ∧ Uneven S r) → (∀ z, SRing S z → Uneven S z → ∃ r ∈ L, ∀ x, x ∈ edges r ↔ x ∈ edges z) → L.length ≤ 128 → Q (.ref l) H'
theorem ok_uneven_rings (D : Def K mg "uneven_rings" st_uneven_rings ["web"]) (T : Txt K mg C Cw) (c_rings : Cal P w K mg base "rings" 4 ["web"] (spRings K Cw)) (c_is_uneven_ring : Cal P w K mg base "is_uneven_ring" 6 ["web", "thing"] (spUnevenR K Cw)) :
    Cal P w K mg base "uneven_rings" 7 ["web"] (spUnevens K Cw) := by
  refine D.ok sc_uneven_rings (fun vs H Q E h => ?_) (fun f cdv A outer s H vs Q E hr h => ?_)
  · obtain ⟨v, n, S, rfl, _⟩ := h
    rfl
  · obtain ⟨v, n, S, rfl, hw, g, k⟩ := h
    refine ⟨_, (pss_one (ps_ret (pe_lc (own := [("ring", 1)]) (by rfl) sc_uneven_rings.nd (pi_list (pe_cal c_rings (hr.mono (by decide)) (by rfl) (pa_cons (pv 0) pa_nil))) (blkOk_by (own := [("ring", 1)]) (by kernel_rfl)) (fun _ _ _ _ _ => (pg_name (i := 1) sc_uneven_rings.nd rfl (Or.inl rfl))) (fun _ _ _ _ _ => pts_one (pt_val (pe_cal c_is_uneven_ring (hr.mono (by decide)) (by rfl) (pa_cons (pv 0) (pa_cons (pv 1) pa_nil))))) (fun _ _ _ _ _ => (pv 1))))), ?_⟩
    refine ⟨_, rfl, v, n, S, rfl, hw, g, fun l vs L H1 s1 hl hv hR => ⟨l, rfl, ⟨_, SqL.of hl⟩, fun D hD => ?_⟩⟩
    have hvl := hv.len
    have h128 := hR.few
    refine lc_list (K := K) (xs := vs) (fun i H' => Same H1 H' ∧ ∃ (vs2 : List V) (L2 : List Way), H' D = some (.lst vs2) ∧ WaysA K H' vs2 L2 ∧ (∀ r ∈ L2, r ∈ L ∧ Uneven S r) ∧ (∀ r ∈ L.take i, Uneven S r → r ∈ L2) ∧ L2.length ≤ i)
      ⟨same_upd hD, [], [], upd_same, .nil, by simp, by simp, by simp⟩ (fun i H' _ h => SqL.of (h.1 _ _ hl)) ?_ ?_
    · rintro i x H2 hx ⟨s2, vs2, L2, d1, d2, d3, d4, d5⟩
      obtain ⟨r, hr0, hrw⟩ := hv.get hx
      have hi : i < vs.length := (List.getElem?_eq_some_iff.mp hx).1
      refine ⟨rfl, _, rfl, _, rfl, v, x, n, S, r, rfl, hw.same (s1.trans s2), g, hrw.same s2, (hR.each r (List.mem_of_getElem? hr0)).toRing, fun b H3 s3 hb => ⟨b, rfl, ?_⟩⟩
      have d13 := s3 _ _ d1
      have d23 : WaysA K H3 vs2 L2 := dpAll_same s3 d2
      cases b with
      | false =>
        refine iteF ⟨s2.trans s3, vs2, L2, d13, d23, d3, fun y hy hu => ?_, by omega⟩
        rw [take_snoc hr0] at hy
        rcases List.mem_append.mp hy with hy | hy
        · exact d4 y hy hu
        · rw [List.mem_singleton.mp hy] at hu
          exact absurd (hb.mpr hu) (by decide)
      | true =>
        have hk := sqT_lst (K := K) (o2 := .lst (vs2 ++ [x])) d13
        have hl2 := d2.len
        refine iteT ⟨_, rfl, vs2, d13, small1000 (by omega), Same.mut (s2.trans s3) hD, vs2 ++ [x], L2 ++ [r], upd_same, ?_, fun y hy => ?_, fun y hy hu => ?_, by simp; omega⟩
        · have e : DpAll K H3 (vs2 ++ [x]) ((L2 ++ [r]).map encW) := by
            rw [List.map_append]
            exact dpAll_app d23 (.cons ((hrw.same (s2.trans s3)).dp) .nil)
          exact dpAll_keep hk e (tupOnlyAll_map tupOnly_W _)
        · rcases List.mem_append.mp hy with hy | hy
          · exact d3 y hy
          · rw [List.mem_singleton.mp hy]
            exact ⟨List.mem_of_getElem? hr0, hb.mp rfl⟩
        · rw [take_snoc hr0] at hy
          rcases List.mem_append.mp hy with hy | hy
          · exact List.mem_append_left _ (d4 y hy hu)
          · exact List.mem_append_right _ hy
    · rintro H2 ⟨s2, vs2, L2, d1, d2, d3, d4, d5⟩
      refine k D vs2 L2 H2 (s1.trans s2) d1 d2 (fun r m => ⟨hR.each r (d3 r m).1, (d3 r m).2⟩) (fun z hz hu => ?_) (by omega)
      obtain ⟨r, hr1, hr2, hr3⟩ := hR.all z hz
      refine ⟨r, d4 r ?_ (hr3.mpr hu), hr2⟩
      rw [hvl, List.take_of_length_le (Nat.le_refl _)]
      exact hr1
end
end K32
end

section
set_option Elab.async false
set_option linter.all false
set_option maxRecDepth 100000
set_option maxHeartbeats 4000000
/-! K32ZI: all tuples, the fewest stalls struck. -/
namespace K32
open PySem PySem.Spec PyProof.Rows L2
/-! ### the order of the tuples -/
theorem dataLe_Z (a b : List Int) : PySem.W.dataLe false encZ a b = decide (a.length < b.length ∨ (a.length = b.length ∧ a ≤ b)) := by
  show (!PySem.W.dataLt (encZ b) (encZ a)) = _
  have e1 : PySem.W.dataLt (encL b) (encL a) = decide (b < a) := by
    rw [encL, encL, PySem.W.dataLt_tuple]
    exact PySem.W.dataLt_ints b a
  rw [encZ, encZ, PySem.W.dataLt_pair (by simp [PySem.W.alike]) (alike_L b a), e1, eqv_L, PySem.W.dataLt_int]
  simp only [PyData.eqv, beq_iff_eq, decide_eq_true_eq]
  by_cases h1 : (b.length : Int) = a.length
  · have h1' : a.length = b.length := by omega
    rw [if_pos h1]
    by_cases h2 : b = a
    · rw [if_pos h2]
      have h3 : a ≤ b := by rw [h2]; exact List.le_refl _
      simp [h1', h3]
    · rw [if_neg h2]
      by_cases h3 : b < a
      · have h4 : ¬ a ≤ b := fun q => List.not_lt.mpr q h3
        simp [h1', h3, h4]
      · have h4 : a ≤ b := List.not_lt.mp h3
        simp [h1', h3, h4]
  · have h1' : ¬ a.length = b.length := by omega
    rw [if_neg h1]
    by_cases h3 : a.length < b.length
    · have : ¬ (b.length : Int) < a.length := by omega
      simp [h3, this]
    · have : (b.length : Int) < a.length := by omega
      simp [h3, this, h1']
def orderOf (m : Nat) : List (List Int) := (lots m).mergeSort (PySem.W.dataLe false encZ)
theorem order_ok (m : Nat) : Order m (orderOf m) := by
  refine ⟨fun l => ?_, ?_⟩
  · unfold orderOf
    rw [(List.mergeSort_perm _ _).mem_iff]
    exact mem_lots
  · have := List.pairwise_mergeSort (le := PySem.W.dataLe false encZ) (fun a b c h k => ?_) (fun a b => ?_) (lots m)
    · exact this.imp fun h => le_Z h
    · rw [dataLe_Z, decide_eq_true_eq] at *
      rcases h with h | ⟨h, h'⟩ <;> rcases k with k | ⟨k, k'⟩
      · exact .inl (by omega)
      · exact .inl (by omega)
      · exact .inl (by omega)
      · exact .inr ⟨by omega, List.le_trans h' k'⟩
    · rw [dataLe_Z, dataLe_Z, Bool.or_eq_true, decide_eq_true_eq, decide_eq_true_eq]
      rcases Nat.lt_trichotomy a.length b.length with h | h | h
      · exact .inl (.inl h)
      · rcases List.le_total a b with k | k
        · exact .inl (.inr ⟨h, k⟩)
        · exact .inr (.inr ⟨h.symm, k⟩)
      · exact .inr (.inl h)
theorem sortable_Z (l : List (List Int)) : PySem.W.Sortable (l.map encZ) := by
  left
  intro d hd
  obtain ⟨x, _, rfl⟩ := List.mem_map.mp hd
  exact ⟨_, _, rfl⟩
/-! ### rows of ints as values -/
def IntsA (K : PySem.W.Frag) (H : Hp) (v : V) (l : List Int) : Prop := ∃ a, v = .ref a ∧ SqT K H a (l.map V.int)
theorem IntsA.dp {K : PySem.W.Frag} {H : Hp} {v : V} {l : List Int} (h : IntsA K H v l) : Dp K H v (encL l) := by
  obtain ⟨a, rfl, h⟩ := h
  exact .tup h (dpAll_ints l)
theorem ints_of {K : PySem.W.Frag} {H : Hp} {v : V} {l : List Int} (h : Dp K H v (encL l)) : IntsA K H v l := by
  unfold encL at h
  cases h with
  | tup h a =>
    rw [dpAll_ints_inv a] at h
    exact ⟨_, rfl, h⟩
theorem IntsA.same {K : PySem.W.Frag} {H H' : Hp} {v : V} {l : List Int} (h : IntsA K H v l) (e : Same H H') : IntsA K H' v l := by
  obtain ⟨a, rfl, h⟩ := h
  exact ⟨a, rfl, h.ext e⟩
theorem rows_get {K : PySem.W.Frag} {H : Hp} {vs : List V} {L : List (List Int)} (h : DpAll K H vs (L.map encL)) {i : Nat} {x : V} (e : vs[i]? = some x) : ∃ r, L[i]? = some r ∧ IntsA K H x r := by
  obtain ⟨d, h1, h2⟩ := dpAll_get' h e
  rw [List.getElem?_map] at h1
  obtain ⟨p, hp, rfl⟩ := Option.map_eq_some_iff.mp h1
  exact ⟨p, hp, ints_of h2⟩
theorem rows_getZ {K : PySem.W.Frag} {H : Hp} {vs : List V} {L : List (List Int)} (h : DpAll K H vs (L.map encZ)) {i : Nat} {x : V} (e : vs[i]? = some x) : ∃ r, L[i]? = some r ∧ ∃ b u, x = .ref b ∧ SqT K H b [.int r.length, u] ∧ IntsA K H u r := by
  obtain ⟨d, h1, h2⟩ := dpAll_get' h e
  rw [List.getElem?_map] at h1
  obtain ⟨p, hp, rfl⟩ := Option.map_eq_some_iff.mp h1
  refine ⟨p, hp, ?_⟩
  unfold encZ at h2
  cases h2 with
  | tup h a =>
    cases a with
    | cons a1 a2 =>
      cases a1
      cases a2 with
      | cons b1 b2 =>
        cases b2
        exact ⟨_, _, rfl, h, ints_of b1⟩
theorem dp_int_eq {K : PySem.W.Frag} {H : Hp} {i j : Int} (h : i = j) : Dp K H (.int i) (.int j) := by
  rw [h]
  exact .int j
theorem asc_len {m : Nat} {l : List Int} (h : Asc m l) : l.length ≤ m := by
  have nd : l.Nodup := h.1.imp fun h => by omega
  have := nodup_len (n := m) nd h.2
  omega
theorem StA.keep {K : PySem.W.Frag} {H H' : Hp} {v : V} {s : Stall} (h : StA K H v s) (hk : ∀ b xs, SqT K H b xs → SqT K H' b xs) : StA K H' v s := by
  obtain ⟨a, x, y, z, rfl, h, ⟨b1, rfl, h1⟩, ⟨b2, rfl, h2⟩, ⟨b3, rfl, h3⟩⟩ := h
  exact ⟨a, _, _, _, rfl, hk _ _ h, ⟨b1, rfl, hk _ _ h1⟩, ⟨b2, rfl, hk _ _ h2⟩, ⟨b3, rfl, hk _ _ h3⟩⟩
section
variable {P : Program} {w : World} {K : PySem.W.Frag} {mg : Str → Option Value} {base : Heap} {C Cw : Addr}
/-- a new web, for any use of it -/
theorem mkW2 {H1 : Hp} {R : Addr → Hp → Prop} {n : Int} {l : Addr} {xs : List V} {S : List Stall} (hl : H1 l = some (.lst xs)) (hs : StAll K H1 xs S) (g : GoodW n S) (k : ∀ x H2, Same H1 H2 → WebA K Cw H2 (.ref x) n S → R x H2) :
    ∀ x dx, H1 x = none → H1 dx = none → dx ≠ x →
      spInitW K Cw (.ref x :: ([.int n, .ref l] ++ [])) (upd (upd H1 dx (.own x)) x (.ins Cw dx [])) (fun v H2 => v = .non ∧ R x H2) E0 := fun x dx nx ndx ne => by
  have s1 : Same H1 (upd (upd H1 dx (.own x)) x (.ins Cw dx [])) := fun c o e => by
    rw [upd_ne (ne_of_none e nx), upd_ne (ne_of_none e ndx)]
    exact e
  refine ⟨x, dx, l, n, xs, S, rfl, upd_same, by rw [upd_ne ne, upd_same], s1 _ _ hl, hs.same s1, g, fun t H' h1 h2 h3 => ⟨rfl, k _ _ (fun c o e => h1 c o (ne_of_none e nx) (s1 _ _ e)) ⟨x, dx, t, xs, rfl, h2, h3, ?_⟩⟩⟩
  exact hs.same fun c o e => h1 c o (ne_of_none e nx) (s1 _ _ e)
theorem left_good {n : Int} {S : List Stall} (g : GoodW n S) (lot : List Int) : GoodW n (leftOf S lot) :=
  ⟨g.n1, g.n8, Nat.le_trans (leftAt_len S lot S.length) g.len, leftOf_good g.good lot, fun s m => by
    obtain ⟨i, _, c⟩ := mem_leftOf.mp m
    exact g.bd s (List.mem_of_getElem? c)⟩

abbrev st_all_tuples : Stmt := topS 35
theorem sc_all_tuples : FnScope ["many", "found", "number", "size", "row"] ["many"] (defScope st_all_tuples) := ⟨rfl, rfl, rfl, by decide +kernel, rfl, by decide +kernel, by decide +kernel⟩
def spAll (K : PySem.W.Frag) : Sp := fun vs H Q _ => ∃ m : Nat, vs = [.int (m : Nat)] ∧ m ≤ 8 ∧ ∀ l rows H', Same H H' → H' l = some (.lst rows) → DpAll K H' rows ((orderOf m).map encL) → Q (.ref l) H'
theorem ok_all_tuples (D : Def K mg "all_tuples" st_all_tuples ["many"]) (T : Txt K mg C Cw) : Cal P w K mg base "all_tuples" 1 ["many"] (spAll K) := by
  refine D.ok sc_all_tuples (fun vs H Q E h => ?_) (fun f cdv A outer s H vs Q E hr h => ?_)
  · obtain ⟨m, rfl, _⟩ := h
    rfl
  · obtain ⟨m, rfl, m8, k⟩ := h
    refine ⟨_, (pss_cons (ps_set (i := 1) sc_all_tuples.nd rfl (Or.inl rfl) (pe_lst (pa_cons (pe_tup pa_nil) pa_nil)))
        (pss_cons (ps_for PassesOwn.never rfl (pi_range1 (by rfl) T.z_range (pa_cons (pv 0) pa_nil)) (pg_name (i := 2) sc_all_tuples.nd rfl (Or.inr rfl)) (pss_one (ps_set (i := 1) sc_all_tuples.nd rfl (Or.inl rfl) (pe_op op_cat (pv 1) (pe_lc (own := [("row", 4)]) (by rfl) sc_all_tuples.nd (pi_list (pv 1)) (blkOk_by (own := [("row", 4)]) (by kernel_rfl)) (fun _ _ _ _ _ => (pg_name (i := 4) sc_all_tuples.nd rfl (Or.inl rfl))) (fun _ _ _ _ _ => pts_nil) (fun _ _ _ _ _ => (pe_op (catA_in (K := K) rfl) (pv 4) (pe_tup (pa_cons (pv 2) pa_nil)))))))))
        (pss_one (ps_ret (pe_lc (own := [("size", 3), ("row", 4)]) (by rfl) sc_all_tuples.nd (pi_list (pe_callB (cr_sortedD (enc := encZ) alike_Z (fun b => Nat.le_trans (depth_Z b) (by decide)) (u62 hr)) (by rfl) T.z_sorted (by decide +kernel) (pa_cons (pe_lc (own := [("row", 4)]) (by rfl) sc_all_tuples.nd (pi_list (pv 1)) (blkOk_by (own := [("row", 4)]) (by kernel_rfl)) (fun _ _ _ _ _ => (pg_name (i := 4) sc_all_tuples.nd rfl (Or.inl rfl))) (fun _ _ _ _ _ => pts_nil) (fun _ _ _ _ _ => (pe_tup (pa_cons (pe_callB (len_in (K := K) rfl) (by rfl) T.z_len (by decide +kernel) (pa_cons (pv 4) pa_nil)) (pa_cons (pv 4) pa_nil))))) pa_nil))) (blkOk_by (own := [("size", 3), ("row", 4)]) (by kernel_rfl)) (fun _ _ _ _ _ => (tupG_in (n := 2) (K := K) rfl rfl (pgs_cons (pg_name (i := 3) sc_all_tuples.nd rfl (Or.inl rfl)) (pgs_cons (pg_name (i := 4) sc_all_tuples.nd rfl (Or.inl rfl)) pgs_nil)))) (fun _ _ _ _ _ => pts_nil) (fun _ _ _ _ _ => (pv 4))))))), ?_⟩
    refine ⟨by show 0 ≤ sizeLine; exact Nat.zero_le _, fun t0 ht0 => ⟨by show 1 ≤ sizeLine; decide, fun l0 hl0 => ?_⟩⟩
    have sA := (same_upd (o := .tup []) ht0).trans (same_upd (o := .lst [.ref t0]) hl0)
    have et0 := (same_upd (o := .lst [.ref t0]) hl0) t0 _ upd_same
    refine ⟨_, rfl, (m : Int), rfl, by omega, by omega, ?_⟩
    rw [Int.toNat_natCast]
    have lot_len : ∀ i, i ≤ m → (lots i).length ≤ 256 := fun i hi => by
      rw [lots_len]
      exact Nat.pow_le_pow_right (n := 2) (by decide) (show i ≤ 8 by omega)
    refine for_range (fun i σ H' => i ≤ m ∧ Same H H' ∧ ∃ (l : Addr) (vs : List V) (u2 : Option V), H' l = some (.lst vs) ∧ DpAll K H' vs ((lots i).map encL) ∧ σ = [some (.int (m : Nat)), some (.ref l), u2, none, none])
      ⟨Nat.zero_le _, sA, l0, [.ref t0], _, upd_same, .cons (.tup (SqT.of et0) .nil) .nil, rfl⟩ ?_ ?_
    · rintro i σ H1 hi ⟨_, s1, l, vs, u2, hl, hvs, rfl⟩
      rw [Int.zero_add]
      have hvl := dpAll_len hvs
      rw [List.length_map] at hvl
      have hll := lot_len i (by omega)
      refine ⟨_, rfl, _, rfl, l, rfl, ⟨_, SqL.of hl⟩, fun D hD => ?_⟩
      refine lc_list (K := K) (xs := vs) (fun j H' => Same H1 H' ∧ ∃ ws, H' D = some (.lst ws) ∧ DpAll K H' ws ((((lots i).take j).map fun r => r ++ [(i : Int)]).map encL)) ⟨same_upd hD, [], upd_same, .nil⟩ (fun j H' _ h => SqL.of (h.1 _ _ hl)) ?_ ?_
      · rintro j x H2 hx ⟨s2, ws, d1, d2⟩
        obtain ⟨r, hr0, hra⟩ := rows_get hvs hx
        obtain ⟨rb, rfl, hrb⟩ := hra.same s2
        have hrl := asc_len (mem_lots.mp (List.mem_of_getElem? hr0))
        have hj : j < vs.length := (List.getElem?_eq_some_iff.mp hx).1
        refine ⟨rfl, yes_if ⟨_, rfl, _, rfl, by show 1 ≤ sizeLine; decide, fun p hp => ?_⟩⟩
        have s3 := same_upd (o := .tup [.int (i : Nat)]) hp
        refine catQ_of (hrb.ext s3) (SqT.of upd_same) (by simp; omega) fun q H4 s4 hq => ?_
        have s34 := s3.trans s4
        have d4 := s34 _ _ d1
        have hwl := dpAll_len d2
        rw [List.length_map, List.length_map, List.length_take] at hwl
        have hk := sqT_lst (K := K) (o2 := .lst (ws ++ [.ref q])) d4
        refine ⟨ws, d4, small1000 (by omega), Same.mut (s2.trans s34) hD, _, upd_same, ?_⟩
        have e : DpAll K H4 (ws ++ [.ref q]) ((((lots i).take (j + 1)).map fun r => r ++ [(i : Int)]).map encL) := by
          rw [take_snoc hr0, List.map_append, List.map_append]
          refine dpAll_app (dpAll_same s34 d2) (.cons (IntsA.dp ⟨q, rfl, ?_⟩) .nil)
          rw [List.map_append]
          exact hq
        exact dpAll_keep hk e (tupOnlyAll_map tupOnly_L _)
      · rintro H2 ⟨s2, ws, d1, d2⟩
        rw [hvl, List.take_of_length_le (Nat.le_refl _)] at d2
        have hwl := dpAll_len d2
        rw [List.length_map, List.length_map] at hwl
        refine ⟨l, D, vs, ws, rfl, rfl, s2 _ _ hl, d1, by rw [sizeLine_eq]; omega, fun p hp => ?_⟩
        refine ⟨by omega, (s1.trans s2).trans (same_upd hp), p, _, _, upd_same, ?_, rfl⟩
        rw [lots, List.map_append]
        exact dpAll_same (same_upd hp) (dpAll_app (dpAll_same s2 hvs) d2)
    · rintro σ H1 ⟨_, s1, l, vs, u2, hl, hvs, rfl⟩
      have hvl := dpAll_len hvs
      rw [List.length_map] at hvl
      have hll := lot_len m (Nat.le_refl _)
      refine ⟨_, rfl, l, rfl, ⟨_, SqL.of hl⟩, fun D hD => ?_⟩
      refine lc_list (K := K) (xs := vs) (fun j H' => Same H1 H' ∧ ∃ ws, H' D = some (.lst ws) ∧ DpAll K H' ws (((lots m).take j).map encZ)) ⟨same_upd hD, [], upd_same, .nil⟩ (fun j H' _ h => SqL.of (h.1 _ _ hl)) ?_ ?_
      · rintro j x H2 hx ⟨s2, ws, d1, d2⟩
        obtain ⟨r, hr0, hra⟩ := rows_get hvs hx
        obtain ⟨rb, rfl, hrb⟩ := hra.same s2
        have hj : j < vs.length := (List.getElem?_eq_some_iff.mp hx).1
        refine ⟨rfl, yes_if ⟨_, rfl, rb, _, rfl, .inr hrb, _, rfl, by show 2 ≤ sizeLine; decide, fun p hp => ?_⟩⟩
        have s3 := same_upd (o := .tup [.int ((r.map V.int).length : Nat), .ref rb]) hp
        have d4 := s3 _ _ d1
        have hwl := dpAll_len d2
        rw [List.length_map, List.length_take] at hwl
        have hk := sqT_lst (K := K) (o2 := .lst (ws ++ [.ref p])) d4
        refine ⟨ws, d4, small1000 (by omega), Same.mut (s2.trans s3) hD, _, upd_same, ?_⟩
        have e : DpAll K (upd H2 p (.tup [.int ((r.map V.int).length : Nat), .ref rb])) (ws ++ [.ref p]) (((lots m).take (j + 1)).map encZ) := by
          rw [take_snoc hr0, List.map_append]
          refine dpAll_app (dpAll_same s3 d2) (.cons (.tup (SqT.of upd_same) ?_) .nil)
          exact .cons (dp_int_eq (by simp)) (.cons (IntsA.dp ⟨rb, rfl, hrb.ext s3⟩) .nil)
        exact dpAll_keep hk e (tupOnlyAll_map tupOnly_Z _)
      · rintro H2 ⟨s2, ws, d1, d2⟩
        rw [hvl, List.take_of_length_le (Nat.le_refl _)] at d2
        refine ⟨D, ws, lots m, rfl, SqL.of d1, d2, sortable_Z _, fun ys p hys hp => ⟨p, rfl, ⟨_, SqL.of upd_same⟩, fun D2 hD2 => ?_⟩⟩
        have hys' : DpAll K H2 ys ((orderOf m).map encZ) := hys
        have sp := same_upd (o := .lst ys) hp
        have hyl := dpAll_len hys'
        have hol : (orderOf m).length = (lots m).length := (List.mergeSort_perm _ _).length_eq
        rw [List.length_map] at hyl
        refine lc_list (K := K) (xs := ys) (fun j H' => Same (upd H2 p (.lst ys)) H' ∧ ∃ ws, H' D2 = some (.lst ws) ∧ DpAll K H' ws (((orderOf m).take j).map encL)) ⟨same_upd hD2, [], upd_same, .nil⟩ (fun j H' _ h => SqL.of (h.1 _ _ upd_same)) ?_ ?_
        · rintro j x H3 hx ⟨s3, ws3, d3, d4⟩
          obtain ⟨r, hr0, b, u, rfl, hb, hu⟩ := rows_getZ (dpAll_same (sp.trans s3) hys') hx
          have hj : j < ys.length := (List.getElem?_eq_some_iff.mp hx).1
          have hwl := dpAll_len d4
          rw [List.length_map, List.length_take] at hwl
          have hk := sqT_lst (K := K) (o2 := .lst (ws3 ++ [u])) d3
          refine ⟨b, _, rfl, hb, rfl, _, _, rfl, _, _, rfl, rfl, rfl, yes_if ⟨_, rfl, ws3, d3, small1000 (by omega), Same.mut s3 hD2, _, upd_same, ?_⟩⟩
          have e : DpAll K H3 (ws3 ++ [u]) (((orderOf m).take (j + 1)).map encL) := by
            rw [take_snoc hr0, List.map_append]
            exact dpAll_app d4 (.cons hu.dp .nil)
          exact dpAll_keep hk e (tupOnlyAll_map tupOnly_L _)
        · rintro H3 ⟨s3, ws3, d3, d4⟩
          rw [hyl, List.take_of_length_le (Nat.le_refl _)] at d4
          exact k D2 ws3 H3 (((s1.trans s2).trans sp).trans s3) d3 d4

abbrev st_fewest_struck : Stmt := topS 43
theorem sc_fewest_struck : FnScope ["web", "indexes", "left", "index", "stall"] ["web"] (defScope st_fewest_struck) := ⟨rfl, rfl, rfl, by decide +kernel, rfl, by decide +kernel, by decide +kernel⟩
def spFewest (K : PySem.W.Frag) (Cw : Addr) : Sp := fun vs H Q _ => ∃ (v : V) (n : Int) (S : List Stall), vs = [v] ∧ WebA K Cw H v n S ∧ GoodW n S ∧
  ∀ u t H', Same H H' → IntsA K H' u t → FirstFit S (orderOf S.length) t → Q u H'
theorem ok_fewest_struck (D : Def K mg "fewest_struck" st_fewest_struck ["web"]) (T : Txt K mg C Cw) (c_all_tuples : Cal P w K mg base "all_tuples" 1 ["many"] (spAll K)) (c_fit_exact : Cal P w K mg base "fit_exact" 9 ["web"] (spFitE K C Cw))
    (i_Web : ICal P w K mg base "Web" Cw 6 ["self", "wares", "stalls"] (spInitW K Cw)) : Cal P w K mg base "fewest_struck" 10 ["web"] (spFewest K Cw) := by
  refine D.ok sc_fewest_struck (fun vs H Q E h => ?_) (fun f cdv A outer s H vs Q E hr h => ?_)
  · obtain ⟨v, n, S, rfl, _⟩ := h
    rfl
  · obtain ⟨v, n, S, rfl, hw, g, k⟩ := h
    refine ⟨_, (pss_cons (ps_for PassesOwn.never rfl (pi_list (pe_cal c_all_tuples (hr.mono (by decide)) (by rfl) (pa_cons (pe_callB call_len_seq (by rfl) T.z_len (by decide +kernel) (pa_cons (pe_fld (pv 0) rfl) pa_nil)) pa_nil))) (pg_name (i := 1) sc_fewest_struck.nd rfl (Or.inr rfl)) (pss_cons (ps_setLc (i := 2) (own := [("index", 3), ("stall", 4)]) (by rfl) sc_fewest_struck.nd rfl rfl (sw_true rfl rfl rfl (by decide +kernel)) (pi_enumT (by rfl) T.z_enumerate (pa_cons (pe_fld (pv 0) rfl) pa_nil)) (blkOk_by (own := [("index", 3), ("stall", 4)]) (by kernel_rfl)) (fun _ _ _ _ _ => (tupG_in (n := 2) (K := K) rfl rfl (pgs_cons (pg_name (i := 3) sc_fewest_struck.nd rfl (Or.inl rfl)) (pgs_cons (pg_name (i := 4) sc_fewest_struck.nd rfl (Or.inl rfl)) pgs_nil)))) (fun _ _ _ _ _ => pts_one (pt_cmpR (notIn_in (K := K) rfl) (pv 3) (pv 1) (by rfl))) (fun _ _ _ _ _ => (pv 4)))
        (pss_one (ps_if (pt_cmpR op_notN (pe_cal c_fit_exact (hr.mono (by decide)) (by rfl) (pa_cons (pe_ical i_Web (hr.mono (by decide)) (by rfl) (pa_cons (pe_fld (pv 0) rfl) (pa_cons (pv 2) pa_nil))) pa_nil)) pe_non (nomark _)) (pss_one (ps_ret (pv 1))) pss_nil))))
        (pss_one (ps_ret pe_non))), ?_⟩
    have g1 := g.n1
    have g8 := g.n8
    have glen := g.len
    obtain ⟨a, dx, t, xs, rfl, ha, ht, hs⟩ := id hw
    refine ⟨_, rfl, a, Cw, dx, _, _, rfl, ha, T.clW, T.nSta, webF_stalls n t, t, xs, rfl, .inr ht, S.length, by rw [hs.len]; rfl, glen, fun l rows H1 s1 hl hrows => ⟨l, rfl, ⟨_, SqL.of hl⟩, ?_⟩⟩
    have hrl := dpAll_len hrows
    rw [List.length_map] at hrl
    obtain ⟨t0, ht0⟩ := FirstFit.exists (S := S) (order_ok S.length)
    refine for_list (K := K) (xs := rows) (fun i σ H' => Same H1 H' ∧ (∀ x ∈ (orderOf S.length).take i, ¬ Fits (leftOf S x)) ∧ ∃ u1 u2, σ = [some (.ref a), u1, u2, none, none]) ⟨fun _ _ e => e, by simp, _, _, rfl⟩ (fun i σ H' _ h => SqL.of (h.1 _ _ hl)) ?_ ?_
    · rintro i x σ H2 hx ⟨s2, hno, u1, u2, rfl⟩
      obtain ⟨r, hr0, hra⟩ := rows_get hrows hx
      obtain ⟨rb, rfl, hrb⟩ := hra.same s2
      have s12 := s1.trans s2
      refine ⟨_, rfl, a, Cw, dx, _, _, rfl, s12 _ _ ha, T.clW, T.nSta, webF_stalls n t, t, _, rfl, ht.ext s12, fun D hD => ?_⟩
      refine lc_it (walk_enumT (K := K) (xs := xs)) (fun q H' => Same H2 H' ∧ ∃ acc, H' D = some (.lst acc) ∧ StAll K H' acc (leftAt S r q)) ⟨same_upd hD, [], upd_same, .nil⟩ (fun q H' _ h => ht.ext (s12.trans h.1)) ?_ ?_
      · rintro q pr H3 H4 hi ⟨s3, acc, d1, d2⟩ ⟨T0, x1, x2, rfl, hT0, rfl, f1, f2⟩
        cases f1
        obtain ⟨st, es, hst0⟩ := hs.get f2
        have hq : q < S.length := (List.getElem?_eq_some_iff.mp es).1
        have sT := same_upd (o := .tup [.int (q : Nat), x2]) hT0
        have s4 := s3.trans sT
        have d3 := sT _ _ d1
        have d4 : StAll K (upd H3 T0 (.tup [.int (q : Nat), x2])) acc (leftAt S r q) := d2.same sT
        refine ⟨T0, _, rfl, SqT.of upd_same, rfl, _, _, rfl, _, _, rfl, rfl, rfl, ?_⟩
        refine ⟨_, rfl, _, rfl, rb, _, rfl, .inr (hrb.ext s4), rfl, by simp [flatV], ?_⟩
        rw [if_pos rfl, inV_int]
        refine ⟨_, rfl, ?_⟩
        by_cases c : (q : Int) ∈ r
        · refine iteN (by simp [c]) ⟨s4, acc, d3, ?_⟩
          rw [leftAt_yes c]
          exact d4
        · have hk := sqT_lst (K := K) (o2 := .lst (acc ++ [x2])) d3
          have hal := d4.len
          have := leftAt_len S r q
          refine iteY (by simp [c]) ⟨_, rfl, acc, d3, small1000 (by omega), Same.mut s4 hD, _, upd_same, ?_⟩
          rw [leftAt_no c es]
          exact StAll.app (Paired.mapP d4 fun _ _ h => h.keep hk) (.cons ((hst0.same (s12.trans s4)).keep hk) .nil)
      · rintro H3 ⟨s3, acc, d1, d2⟩
        rw [hs.len] at d2
        have s13 := s12.trans s3
        refine ⟨_, rfl, a, Cw, dx, _, _, rfl, s13 _ _ ha, T.clW, T.nWar, webF_wares n t, _, rfl, ?_⟩
        refine mkW2 d1 d2 (left_good g r) fun y H4 s4 hy => ⟨.ref y, n, leftOf S r, rfl, hy, left_good g r, fun z H5 s5 hz => ?_⟩
        have s35 := (s3.trans s4).trans s5
        rcases hz with ⟨rfl, hz⟩ | ⟨l2, xs2, rfl, hfit, _⟩
        · refine ⟨rfl, _, rfl, iteF ⟨s2.trans s35, fun x hx => ?_, _, _, rfl⟩⟩
          rw [take_snoc hr0] at hx
          rcases List.mem_append.mp hx with hx | hx
          · exact hno x hx
          · rw [List.mem_singleton.mp hx]
            exact hz
        · refine ⟨rfl, _, rfl, iteT ⟨_, rfl, k _ r H5 (s12.trans s35) ⟨rb, rfl, hrb.ext s35⟩ ⟨(orderOf S.length).take i, (orderOf S.length).drop (i + 1), ?_, hno, hfit⟩⟩⟩
          obtain ⟨hi, e⟩ := List.getElem?_eq_some_iff.mp hr0
          rw [← e, ← List.drop_eq_getElem_cons hi, List.take_append_drop]
    · rintro σ H2 ⟨s2, hno, u1, u2, rfl⟩
      rw [hrl, List.take_of_length_le (Nat.le_refl _)] at hno
      obtain ⟨p, q, e, _, hf⟩ := ht0
      exact absurd hf (hno t0 (by rw [e]; simp))
end
end K32
end

section
set_option Elab.async false
set_option linter.all false
set_option maxRecDepth 100000
set_option maxHeartbeats 4000000
/-! K32LA: the law's hand, its draws and its fractions. -/
namespace K32
open PySem PySem.Spec PyProof.Rows L2
theorem seq_cut {t u : TS} {D : Ends} {σ : L2.St} {H : Hp} (J : L2.St → Hp → Prop) (h2 : ∀ σ' H', J σ' H' → u D σ' H') (h1 : (∀ σ' H', J σ' H' → u D σ' H') → t { D with nx := u D } σ H) : tSeq t u D σ H := h1 h2
/-! ### the hand -/
def HandA (H : Hp) (h c : Addr) : Prop := ∃ (cells : List Int) (p r s t : Int), H h = some (.lst [.ref c, .int p, .int r, .int s, .int t]) ∧ H c = some (.lst (cells.map V.int)) ∧ 0 ≤ p ∧ cells.length ≤ 63 ∧ c ≠ h
/-- all stands as before but for what is at h -/
def But (h : Addr) (H H' : Hp) : Prop := ∀ b o, b ≠ h → H b = some o → H' b = some o
theorem But.refl {h : Addr} {H : Hp} : But h H H := fun _ _ _ e => e
theorem But.trans {h : Addr} {H H' H'' : Hp} (a : But h H H') (b : But h H' H'') : But h H H'' := fun x o n e => b x o n (a x o n e)
theorem But.of {h : Addr} {H H' : Hp} (e : Same H H') : But h H H' := fun b o _ q => e b o q
theorem But.upd {h : Addr} {H H' : Hp} {o : HO} (a : But h H H') : But h H (upd H' h o) := fun b u n e => by
  rw [upd_ne n]
  exact a b u n e
theorem But.mut {h p : Addr} {H H' : Hp} {o : HO} (a : But h H H') (n : H p = none) : But h H (L2.upd H' p o) := fun b u nb e => by
  rw [upd_ne (ne_of_none e n)]
  exact a b u nb e
theorem But.keep {K : PySem.W.Frag} {h : Addr} {H H' : Hp} (a : But h H H') {ys : List V} (hh : H h = some (.lst ys)) : ∀ b xs, SqT K H b xs → SqT K H' b xs := by
  rintro b xs ((e | ⟨q, e⟩) | e)
  · exact .inl (.inl (a _ _ (ne_of e hh (fun z => nomatch z)) e))
  · exact .inl (.inr ⟨q, a _ _ (ne_of e hh (fun z => nomatch z)) e⟩)
  · exact .inr e
theorem But.sameOf {h : Addr} {H0 H H' : Hp} (a : But h H H') (s : Same H0 H) (n : H0 h = none) : Same H0 H' := fun b o e => a b o (ne_of_none e n) (s b o e)
theorem HandA.lst {H : Hp} {h c : Addr} (a : HandA H h c) : ∃ ys, H h = some (.lst ys) := by
  obtain ⟨cells, p, r, s, t, e, _⟩ := a
  exact ⟨_, e⟩
theorem HandA.cells {H : Hp} {h c : Addr} (a : HandA H h c) : ∃ ys, H c = some (.lst ys) := by
  obtain ⟨cells, p, r, s, t, _, e, _⟩ := a
  exact ⟨_, e⟩
theorem HandA.same {H H' : Hp} {h c : Addr} (a : HandA H h c) (e : Same H H') : HandA H' h c := by
  obtain ⟨cells, p, r, s, t, h1, h2, h3⟩ := a
  exact ⟨cells, p, r, s, t, e _ _ h1, e _ _ h2, h3⟩
theorem HandA.free {H : Hp} {h c p : Addr} (a : HandA H h c) {o : HO} (e : H p = none) : HandA (upd H p o) h c := a.same (same_upd e)
theorem HandA.set {H : Hp} {h c p : Addr} (a : HandA H h c) {o : HO} (n1 : h ≠ p) (n2 : c ≠ p) : HandA (upd H p o) h c := by
  obtain ⟨cells, q, r, s, t, h1, h2, h3⟩ := a
  exact ⟨cells, q, r, s, t, by rw [upd_ne n1]; exact h1, by rw [upd_ne n2]; exact h2, h3⟩
section
variable {P : Program} {w : World} {K : PySem.W.Frag} {mg : Str → Option Value} {base : Heap} {C Cw : Addr}

abbrev st__law_hand : Stmt := topS 45
theorem sc__law_hand : FnScope ["_law_script", "_law_cells", "_law_cell"] ["_law_script"] (defScope st__law_hand) := ⟨rfl, rfl, rfl, by decide +kernel, rfl, by decide +kernel, by decide +kernel⟩
def spHand (K : PySem.W.Frag) : Sp := fun vs H Q _ => ∃ (a : Addr) (ns : List Int), vs = [.ref a] ∧ SqL K H a (ns.map V.int) ∧ ∀ h c H', Same H H' → H h = none → H c = none → HandA H' h c → Q (.ref h) H'
theorem ok_law_hand (D : Def K mg "_law_hand" st__law_hand ["_law_script"]) (T : Txt K mg C Cw) : Cal P w K mg base "_law_hand" 1 ["_law_script"] (spHand K) := by
  refine D.ok sc__law_hand (fun vs H Q E h => ?_) (fun f cdv A outer s H vs Q E hr h => ?_)
  · obtain ⟨a, ns, rfl, _⟩ := h
    rfl
  · obtain ⟨a, ns, rfl, ha, k⟩ := h
    refine ⟨_, (pss_cons (ps_setLc (i := 1) (own := [("_law_cell", 2)]) (by rfl) sc__law_hand.nd rfl rfl (sw_true rfl rfl rfl (by decide +kernel)) (pi_list (pe_slice sl_list (pv 0) po_none (po_some pe_int))) (blkOk_by (own := [("_law_cell", 2)]) (by kernel_rfl)) (fun _ _ _ _ _ => (pg_name (i := 2) sc__law_hand.nd rfl (Or.inl rfl))) (fun _ _ _ _ _ => pts_nil) (fun _ _ _ _ _ => (pe_callB call_abs (by rfl) T.z_abs (by decide +kernel) (pa_cons (pe_callTy call_int1 (by rfl) T.z_int (by decide +kernel) (pa_cons (pv 2) pa_nil)) pa_nil))))
        (pss_one (ps_ret (pe_lst (pa_cons (pv 1) (pa_cons pe_int (pa_cons pe_int (pa_cons (pe_op op_add pe_int (pe_callB call_len_seq (by rfl) T.z_len (by decide +kernel) (pa_cons (pv 1) pa_nil))) (pa_cons pe_int pa_nil))))))))), ?_⟩
    refine ⟨_, rfl, ?_⟩
    refine noPart_of (partC_of ⟨a, _, rfl, ha, fun p hp => ⟨p, rfl, ⟨_, SqL.of upd_same⟩, fun D hD => ?_⟩⟩)
    have ecut : cutV (ns.map V.int) none (some 63) = (ns.take 63).map V.int := by
      rw [show cutV (ns.map V.int) none (some 63) = (ns.map V.int).take 63 from cut_to _ 63, List.map_take]
    rw [ecut] at hD ⊢
    have sp := same_upd (o := .lst ((ns.take 63).map V.int)) hp
    have hl63 : (ns.take 63).length ≤ 63 := by rw [List.length_take]; omega
    generalize ns.take 63 = ms at *
    refine lc_list (K := K) (xs := ms.map V.int) (fun i H' => Same (upd H p (.lst (ms.map V.int))) H' ∧ ∃ cells : List Int, H' D = some (.lst (cells.map V.int)) ∧ cells.length = i) ⟨same_upd hD, [], upd_same, rfl⟩ (fun i H' _ h => SqL.of (h.1 _ _ upd_same)) ?_ ?_
    · rintro i x H1 hx ⟨s1, cells, d1, d2⟩
      have hi := (List.getElem?_eq_some_iff.mp hx).1
      rw [List.length_map] at hi
      rw [List.getElem?_map] at hx
      obtain ⟨n, hn, rfl⟩ := Option.map_eq_some_iff.mp hx
      refine ⟨rfl, yes_if ⟨_, rfl, .inl ⟨n, rfl, n, rfl, _, d1, ?_, Same.mut s1 hD, cells ++ [if n < 0 then -n else n], ?_, by simp [d2]⟩⟩⟩
      · rw [List.length_map, d2]
        exact small1000 (by omega)
      · rw [upd_same, List.map_append]
        rfl
    · rintro H1 ⟨s1, cells, d1, d2⟩
      rw [List.length_map] at d2
      have s2 := sp.trans s1
      refine ⟨_, rfl, _, rfl, D, _, rfl, .inl (SqL.of d1), _, _, rfl, rfl, by show 5 ≤ sizeLine; decide, fun h hh => ?_⟩
      exact k h D _ (s2.trans (same_upd hh)) (s2.free hh) (sp.free hD) ⟨cells, 0, 0, _, 0, upd_same, (same_upd hh) _ _ d1, Int.le_refl _, by omega, ne_of_none d1 hh⟩

abbrev st__law_draw : Stmt := topS 46
theorem sc__law_draw : FnScope ["_law_hand_here", "_law_many", "_law_cell", "_law_digit", "_law_number"] ["_law_hand_here", "_law_many"] (defScope st__law_draw) := ⟨rfl, rfl, rfl, by decide +kernel, rfl, by decide +kernel, by decide +kernel⟩
def spDraw : Sp := fun vs H Q _ => ∃ (h c : Addr) (m : Int), vs = [.ref h, .int m] ∧ HandA H h c ∧ 0 < m ∧ m < 1000 ∧ ∀ d H', 0 ≤ d → d < m → HandA H' h c → But h H H' → Q (.int d) H'
theorem ok_law_draw (D : Def K mg "_law_draw" st__law_draw ["_law_hand_here", "_law_many"]) (T : Txt K mg C Cw) : Cal P w K mg base "_law_draw" 1 ["_law_hand_here", "_law_many"] spDraw := by
  refine D.ok sc__law_draw (fun vs H Q E h => ?_) (fun f cdv A outer s H vs Q E hr h => ?_)
  · obtain ⟨a, c, m, rfl, _⟩ := h
    rfl
  · obtain ⟨a, c, m, rfl, ha, m0, m1, k⟩ := h
    refine ⟨_, (pss_cons (ps_if (PW.pt (pw_and (pt_cmpR op_eq (pe_ix ix_list (pv 0) pe_int (fun _ _ => rfl)) pe_int (nomark _)) (pw_and1 (pt_cmpR op_lt (pe_ix ix_list (pv 0) pe_int (fun _ _ => rfl)) (pe_callB call_len_seq (by rfl) T.z_len (by decide +kernel) (pa_cons (pe_ix ix_list (pv 0) pe_int (fun _ _ => rfl)) pa_nil)) (nomark _))))) (pss_cons (ps_set (i := 2) sc__law_draw.nd rfl (Or.inl rfl) (pe_ix ix_list (pe_ix ix_list (pv 0) pe_int (fun _ _ => rfl)) (pe_ix ix_list (pv 0) pe_int (fun _ _ => rfl)) (fun _ _ => rfl)))
        (pss_cons (ps_asg (pe_op op_add (pe_ix ix_list (pv 0) pe_int (fun _ _ => rfl)) pe_int) (pg_sub (pv 0) pe_int set_list))
        (pss_cons (ps_asg (pe_op op_mod (pe_callTy call_int1 (by rfl) T.z_int (by decide +kernel) (pa_cons (pe_op op_add (pe_op op_add (pe_op op_mul (pe_ix ix_list (pv 0) pe_int (fun _ _ => rfl)) pe_int) (pv 2)) pe_int) pa_nil)) pe_int) (pg_sub (pv 0) pe_int set_list))
        (pss_one (ps_if (pt_cmpR op_ge (pv 2) (pe_op op_pow pe_int pe_int) (nomark _)) (pss_one (ps_asg (pv 2) (pg_sub (pv 0) pe_int set_list))) pss_nil))))) pss_nil)
        (pss_cons (ps_if (pt_cmpR op_gt (pe_ix ix_list (pv 0) pe_int (fun _ _ => rfl)) pe_int (nomark _)) (pss_cons (ps_set (i := 3) sc__law_draw.nd rfl (Or.inl rfl) (pe_op op_mod (pe_callTy call_int1 (by rfl) T.z_int (by decide +kernel) (pa_cons (pe_ix ix_list (pv 0) pe_int (fun _ _ => rfl)) pa_nil)) (pv 1)))
        (pss_cons (ps_asg (pe_op op_fdiv (pe_ix ix_list (pv 0) pe_int (fun _ _ => rfl)) (pv 1)) (pg_sub (pv 0) pe_int set_list))
        (pss_one (ps_ret (pv 3))))) pss_nil)
        (pss_cons (ps_asg (pe_op op_add (pe_ix ix_list (pv 0) pe_int (fun _ _ => rfl)) pe_int) (pg_sub (pv 0) pe_int set_list))
        (pss_cons (ps_set (i := 4) sc__law_draw.nd rfl (Or.inl rfl) (pe_op op_mod (pe_callTy call_int1 (by rfl) T.z_int (by decide +kernel) (pa_cons (pe_op op_mul (pe_callTy call_int1 (by rfl) T.z_int (by decide +kernel) (pa_cons (pe_op op_add (pe_ix ix_list (pv 0) pe_int (fun _ _ => rfl)) (pe_op op_mul pe_int (pe_ix ix_list (pv 0) pe_int (fun _ _ => rfl)))) pa_nil)) pe_int) pa_nil)) pe_int))
        (pss_cons (ps_set (i := 4) sc__law_draw.nd rfl (Or.inl rfl) (pe_op op_mod (pe_callTy call_int1 (by rfl) T.z_int (by decide +kernel) (pa_cons (pe_op op_mul (pv 4) (pe_op op_add (pe_op op_fdiv (pv 4) pe_int) pe_int)) pa_nil)) pe_int))
        (pss_cons (ps_set (i := 4) sc__law_draw.nd rfl (Or.inl rfl) (pe_op op_mod (pe_callTy call_int1 (by rfl) T.z_int (by decide +kernel) (pa_cons (pe_op op_mul (pv 4) (pe_op op_add (pe_op op_fdiv (pv 4) pe_int) pe_int)) pa_nil)) pe_int))
        (pss_one (ps_ret (pe_op op_mod (pe_callTy call_int1 (by rfl) T.z_int (by decide +kernel) (pa_cons (pe_op op_fdiv (pv 4) pe_int) pa_nil)) (pv 1)))))))))), ?_⟩
    refine seq_cut (fun σ H1 => HandA H1 a c ∧ But a H H1 ∧ ∃ u, σ = [some (.ref a), some (.int m), u, none, none]) ?rest ?_
    case rest =>
      rintro σ H1 ⟨⟨cells, p, r, s, t, h1, h2, p0, cl, nc⟩, hb, u, rfl⟩
      have fin : ∀ x H', HandA H' a c → But a H H' → Q (.int (x % m)) H' := fun x H' ha' hb' => k _ H' (Int.emod_nonneg _ (by omega)) (Int.emod_lt_of_pos _ m0) ha' hb'
      refine ⟨_, rfl, a, _, _, _, rfl, rfl, SqL.of h1, atI_nat (j := 2) rfl, _, _, rfl, rfl, _, rfl, ite2 (fun _ => ?_) (fun _ => ?_)⟩
      · refine ⟨_, rfl, a, _, _, _, rfl, rfl, SqL.of h1, atI_nat (j := 2) rfl, .inl ⟨r, rfl, _, rfl, _, _, rfl, rfl, m0, ?_⟩⟩
        refine ⟨_, rfl, a, _, _, _, rfl, rfl, SqL.of h1, atI_nat (j := 2) rfl, _, rfl, _, _, rfl, rfl, ⟨m0, by omega⟩, _, rfl, a, _, 2, 2, rfl, rfl, h1, rfl, ?_⟩
        exact ⟨_, rfl, fin r _ ⟨cells, p, _, s, t, upd_same, by rw [upd_ne nc]; exact h2, p0, cl, nc⟩ hb.upd⟩
      · refine ⟨_, rfl, a, _, _, _, rfl, rfl, SqL.of h1, atI_nat (j := 4) rfl, _, _, rfl, rfl, _, rfl, a, _, 4, 4, rfl, rfl, h1, rfl, ?_⟩
        have hA : HandA (upd H1 a (.lst [.ref c, .int p, .int r, .int s, .int (t + 1)])) a c := ⟨cells, p, r, s, t + 1, upd_same, by rw [upd_ne nc]; exact h2, p0, cl, nc⟩
        have h3 : upd H1 a (.lst [.ref c, .int p, .int r, .int s, .int (t + 1)]) a = some (.lst [.ref c, .int p, .int r, .int s, .int (t + 1)]) := upd_same
        have hb2 : But a H (upd H1 a (.lst [.ref c, .int p, .int r, .int s, .int (t + 1)])) := hb.upd
        change tSeq _ _ _ _ (upd H1 a (.lst [.ref c, .int p, .int r, .int s, .int (t + 1)]))
        generalize upd H1 a (.lst [.ref c, .int p, .int r, .int s, .int (t + 1)]) = H2 at *
        refine ⟨_, rfl, a, _, _, _, rfl, rfl, SqL.of h3, atI_nat (j := 3) rfl, _, rfl, a, _, _, _, rfl, rfl, SqL.of h3, atI_nat (j := 4) rfl, _, _, rfl, rfl, .inl (by decide), _, _, rfl, rfl, .inl ⟨_, rfl, _, _, rfl, rfl, .inr (by decide), .inl ⟨_, rfl, _, _, rfl, rfl, (by first | (show (0 : Int) < 2147483647; decide) | (show (0 : Int) < 2147483629; decide) | (show (0 : Int) < 2147483399; decide)), ?_⟩⟩⟩
        have q1 : ∀ x : Int, -(2 ^ 64) < x % 2147483647 ∧ x % 2147483647 < 2 ^ 64 := fun x => by omega
        refine ⟨_, rfl, _, rfl, _, _, rfl, rfl, ⟨by decide, by decide⟩, _, _, rfl, rfl, _, _, rfl, rfl, .inl (q1 _), .inl ⟨_, rfl, _, _, rfl, rfl, (by first | (show (0 : Int) < 2147483647; decide) | (show (0 : Int) < 2147483629; decide) | (show (0 : Int) < 2147483399; decide)), ?_⟩⟩
        refine ⟨_, rfl, _, rfl, _, _, rfl, rfl, ⟨by decide, by decide⟩, _, _, rfl, rfl, _, _, rfl, rfl, .inl (q1 _), .inl ⟨_, rfl, _, _, rfl, rfl, (by first | (show (0 : Int) < 2147483647; decide) | (show (0 : Int) < 2147483629; decide) | (show (0 : Int) < 2147483399; decide)), ?_⟩⟩
        exact ⟨_, rfl, _, _, rfl, rfl, ⟨by decide, by decide⟩, .inl ⟨_, rfl, _, rfl, _, _, rfl, rfl, m0, fin _ H2 hA hb2⟩⟩
    intro rest
    obtain ⟨cells, p, r, s, t, h1, h2, p0, cl, nc⟩ := id ha
    refine ⟨_, rfl, a, _, _, _, rfl, rfl, SqL.of h1, atI_nat (j := 2) rfl, rfl, _, rfl, ite2 (fun _ => ?_) (fun _ => ?_)⟩
    · refine ⟨_, rfl, a, _, _, _, rfl, rfl, SqL.of h1, atI_nat (j := 1) rfl, _, rfl, a, _, _, _, rfl, rfl, SqL.of h1, atI_nat (j := 0) rfl, c, _, rfl, .inl (SqL.of h2), _, _, rfl, rfl, _, rfl, ite2 (fun cp => ?_) (fun _ => ?_)⟩
      · have cp' := of_decide_eq_true cp
        rw [List.length_map] at cp'
        obtain ⟨j, rfl⟩ := Int.eq_ofNat_of_zero_le p0
        have hj : j < cells.length := by omega
        refine ⟨_, rfl, a, _, _, _, rfl, rfl, SqL.of h1, atI_nat (j := 0) rfl, _, rfl, a, _, _, _, rfl, rfl, SqL.of h1, atI_nat (j := 1) rfl, c, _, _, .int cells[j], rfl, rfl, SqL.of h2, atI_nat (j := j) (by simp [hj]), ?_⟩
        refine ⟨_, rfl, a, _, _, _, rfl, rfl, SqL.of h1, atI_nat (j := 1) rfl, _, _, rfl, rfl, _, rfl, a, _, 1, 1, rfl, rfl, h1, rfl, ?_⟩
        have h3 : upd H a (.lst [.ref c, .int ((j : Int) + 1), .int r, .int s, .int t]) a = some (.lst [.ref c, .int ((j : Int) + 1), .int r, .int s, .int t]) := upd_same
        have h4 : upd H a (.lst [.ref c, .int ((j : Int) + 1), .int r, .int s, .int t]) c = some (.lst (cells.map V.int)) := by rw [upd_ne nc]; exact h2
        have hb : But a H (upd H a (.lst [.ref c, .int ((j : Int) + 1), .int r, .int s, .int t])) := But.refl.upd
        change tSeq _ _ _ _ (upd H a (.lst [.ref c, .int ((j : Int) + 1), .int r, .int s, .int t]))
        generalize upd H a (.lst [.ref c, .int ((j : Int) + 1), .int r, .int s, .int t]) = H1 at *
        refine ⟨_, rfl, a, _, _, _, rfl, rfl, SqL.of h3, atI_nat (j := 3) rfl, _, _, rfl, rfl, .inr (by decide), _, rfl, _, _, rfl, rfl, _, _, rfl, rfl, .inl ⟨_, rfl, _, _, rfl, rfl, (by first | (show (0 : Int) < 2147483647; decide) | (show (0 : Int) < 2147483629; decide) | (show (0 : Int) < 2147483399; decide)), _, rfl, a, _, 3, 3, rfl, rfl, h3, rfl, ?_⟩⟩
        refine ⟨_, rfl, _, _, rfl, rfl, ⟨by decide, by decide, by decide⟩, _, _, rfl, rfl, _, rfl, ite2 (fun _ => ?_) (fun _ => ?_)⟩
        · refine ⟨_, rfl, _, rfl, a, _, 2, 2, rfl, rfl, upd_same, rfl, ?_⟩
          rw [upd_upd]
          exact rest _ _ ⟨⟨cells, _, _, _, _, upd_same, by rw [upd_ne nc]; exact h4, by omega, cl, nc⟩, hb.upd, _, rfl⟩
        · exact rest _ _ ⟨⟨cells, _, _, _, _, upd_same, by rw [upd_ne nc]; exact h4, by omega, cl, nc⟩, hb.upd, _, rfl⟩
      · exact rest _ _ ⟨ha, But.refl, _, rfl⟩
    · exact rest _ _ ⟨ha, But.refl, _, rfl⟩

abbrev st__law_gcd : Stmt := topS 47
theorem sc__law_gcd : FnScope ["_law_one", "_law_other"] ["_law_one", "_law_other"] (defScope st__law_gcd) := ⟨rfl, rfl, rfl, by decide +kernel, rfl, by decide +kernel, by decide +kernel⟩
def spGcd : Sp := fun vs H Q _ => ∃ a b : Int, vs = [.int a, .int b] ∧ 0 ≤ b ∧ Q (.int (Int.gcd a b : Nat)) H
theorem ok_law_gcd (D : Def K mg "_law_gcd" st__law_gcd ["_law_one", "_law_other"]) (T : Txt K mg C Cw) : Cal P w K mg base "_law_gcd" 1 ["_law_one", "_law_other"] spGcd := by
  refine D.ok sc__law_gcd (fun vs H Q E h => ?_) (fun f cdv A outer s H vs Q E hr h => ?_)
  · obtain ⟨a, b, rfl, _⟩ := h
    rfl
  · obtain ⟨a, b, rfl, hb, k⟩ := h
    refine ⟨_, (pss_cons (ps_while PassesOwn.never (pt_cmpR op_ne (pv 1) pe_int (nomark _)) (pss_one (ps_par (i := 0) (j := 1) (by rfl) sc__law_gcd.nd rfl rfl (by decide) rfl rfl (pa_cons (pv 1) (pa_cons (pe_op op_mod (pe_callTy call_int1 (by rfl) T.z_int (by decide +kernel) (pa_cons (pv 0) pa_nil)) (pv 1)) pa_nil)) (by rfl))))
        (pss_one (ps_ret (pe_callB call_abs (by rfl) T.z_abs (by decide +kernel) (pa_cons (pv 0) pa_nil))))), ?_⟩
    refine ⟨fun n σ H' => ∃ x y : Int, σ = [some (.int x), some (.int y)] ∧ 0 ≤ y ∧ Int.gcd x y = Int.gcd a b ∧ H' = H ∧ n = y.toNat, ⟨_, a, b, rfl, hb, rfl, rfl, rfl⟩, ?_⟩
    rintro n σ H' ⟨x, y, rfl, hy, e, rfl, rfl⟩
    refine ⟨_, rfl, rfl, _, rfl, ?_⟩
    by_cases c : y = 0
    · subst c
      refine iteN (by simp) ⟨_, rfl, x, rfl, ?_⟩
      rw [Int.gcd_zero_right] at e
      rw [← e] at k
      have : (if x < 0 then -x else x) = (x.natAbs : Int) := by split <;> omega
      rw [this]
      exact k
    · refine iteY (by simp [c]) ⟨fun σ' H'' => ∃ m', m' < _ ∧ _, fun σ' H' z => z, ?_⟩
      refine ⟨_, rfl, _, rfl, .inl ⟨x, rfl, _, rfl, _, _, rfl, rfl, by omega, _, _, rfl, (x % y).toNat, ?_, _, _, rfl, Int.emod_nonneg _ c, ?_, rfl, rfl⟩⟩
      · have h1 := Int.emod_lt_of_pos x (show 0 < y by omega)
        have h2 := Int.emod_nonneg x c
        omega
      · rw [← e, Int.emod_def, Int.gcd_sub_mul_left_right, Int.gcd_comm]

abbrev st__law_frac : Stmt := topS 48
theorem sc__law_frac : FnScope ["_law_top", "_law_bottom", "_law_part"] ["_law_top", "_law_bottom"] (defScope st__law_frac) := ⟨rfl, rfl, rfl, by decide +kernel, rfl, by decide +kernel, by decide +kernel⟩
def spLFrac (K : PySem.W.Frag) : Sp := fun vs H Q _ => ∃ a b : Int, vs = [.int a, .int b] ∧ 0 < b ∧ b.natAbs < 2 ^ 9000 ∧ ∀ v H', Same H H' → FrA K H' v (Rat.divInt a b) → Q v H'
theorem ok_law_frac (D : Def K mg "_law_frac" st__law_frac ["_law_top", "_law_bottom"]) (T : Txt K mg C Cw) (c__law_gcd : Cal P w K mg base "_law_gcd" 1 ["_law_one", "_law_other"] spGcd) :
    Cal P w K mg base "_law_frac" 2 ["_law_top", "_law_bottom"] (spLFrac K) := by
  refine D.ok sc__law_frac (fun vs H Q E h => ?_) (fun f cdv A outer s H vs Q E hr h => ?_)
  · obtain ⟨a, b, rfl, _⟩ := h
    rfl
  · obtain ⟨a, b, rfl, hb, h9, k⟩ := h
    refine ⟨_, (pss_cons (ps_set (i := 2) sc__law_frac.nd rfl (Or.inl rfl) (pe_cal c__law_gcd (hr.mono (by decide)) (by rfl) (pa_cons (pv 0) (pa_cons (pv 1) pa_nil))))
        (pss_cons (ps_if (pt_cmpR op_lt (pv 1) pe_int (nomark _)) (pss_one (ps_set (i := 2) sc__law_frac.nd rfl (Or.inl rfl) (pe_un un_neg (pv 2)))) pss_nil)
        (pss_one (ps_ret (pe_tup (pa_cons (pe_op op_fdivW (pv 0) (pv 2)) (pa_cons (pe_op op_fdivW (pv 1) (pv 2)) pa_nil))))))), ?_⟩
    refine ⟨_, rfl, _, rfl, a, b, rfl, by omega, ?_⟩
    refine ⟨_, rfl, _, _, rfl, rfl, _, rfl, iteN (decide_eq_false (by omega)) ?_⟩
    have g := gcd_bd (t := a) (show b ≠ 0 by omega) h9
    refine ⟨_, rfl, _, rfl, _, _, rfl, rfl, g, _, rfl, _, rfl, _, _, rfl, rfl, g, by show 2 ≤ sizeLine; decide, fun p hp => k _ _ (same_upd hp) ⟨p, rfl, SqT.of ?_⟩⟩
    rw [upd_same]
    have e1 := div_top (t := a) (show b ≠ 0 by omega)
    have e2 := div_bot (t := a) (show b ≠ 0 by omega)
    rw [if_neg (by omega), if_neg (by omega)] at e1 e2
    show some (HO.tup [V.int (a / _), V.int (b / _)]) = _
    rw [e1, e2]
end
end K32
end

section
set_option Elab.async false
set_option linter.all false
set_option maxRecDepth 100000
set_option maxHeartbeats 4000000
/-! K32LB: the law's fractions, its drawn stalls. -/
namespace K32
open PySem PySem.Spec PyProof.Rows L2
section
variable {P : Program} {w : World} {K : PySem.W.Frag} {mg : Str → Option Value} {base : Heap} {C Cw : Addr}
theorem erase_perm {α : Type} : ∀ {l : List α} {i : Nat} (h : i < l.length), ([l[i]] ++ l.eraseIdx i).Perm l
  | [], _, h => by simp at h
  | a :: l, 0, _ => by simp
  | a :: l, i + 1, h => by
    have := erase_perm (l := l) (i := i) (by simpa using h)
    simp only [List.getElem_cons_succ, List.eraseIdx_cons_succ]
    exact (List.Perm.swap a _ _).trans (List.Perm.cons a this)
theorem FrA.keep {K : PySem.W.Frag} {H H' : Hp} {v : V} {q : Rat} (h : FrA K H v q) (hk : ∀ b xs, SqT K H b xs → SqT K H' b xs) : FrA K H' v q := by
  obtain ⟨a, rfl, h⟩ := h
  exact ⟨a, rfl, hk _ _ h⟩
theorem den_pos' (p q : Rat) : (0 : Int) < (p.den : Int) * q.den := by
  have := p.den_pos
  have := q.den_pos
  exact Int.mul_pos (by omega) (by omega)

abbrev st__law_times : Stmt := topS 51
theorem sc__law_times : FnScope ["_law_one", "_law_other"] ["_law_one", "_law_other"] (defScope st__law_times) := ⟨rfl, rfl, rfl, by decide +kernel, rfl, by decide +kernel, by decide +kernel⟩
def spTimes (K : PySem.W.Frag) : Sp := fun vs H Q _ => ∃ (x y : V) (p q : Rat) (n m : Nat), vs = [x, y] ∧ FrA K H x p ∧ FrA K H y q ∧ Bd n p ∧ Bd m q ∧ 0 < n ∧ 0 < m ∧ n + m ≤ 9000 ∧ ∀ v H', Same H H' → FrA K H' v (p * q) → Q v H'
theorem ok_law_times (D : Def K mg "_law_times" st__law_times ["_law_one", "_law_other"]) (T : Txt K mg C Cw) (c__law_frac : Cal P w K mg base "_law_frac" 2 ["_law_top", "_law_bottom"] (spLFrac K)) :
    Cal P w K mg base "_law_times" 3 ["_law_one", "_law_other"] (spTimes K) := by
  refine D.ok sc__law_times (fun vs H Q E h => ?_) (fun f cdv A outer s H vs Q E hr h => ?_)
  · obtain ⟨x, y, p, q, n, m, rfl, _⟩ := h
    rfl
  · obtain ⟨x, y, p, q, n, m, rfl, ⟨a, rfl, ha⟩, ⟨b, rfl, hb⟩, bp, bq, hn, hm, hnm, k⟩ := h
    refine ⟨_, (pss_one (ps_ret (pe_cal c__law_frac (hr.mono (by decide)) (by rfl) (pa_cons (pe_op op_mulW (pe_ix ix_tup (pv 0) pe_int (fun _ _ => rfl)) (pe_ix ix_tup (pv 1) pe_int (fun _ _ => rfl))) (pa_cons (pe_op op_mulW (pe_ix ix_tup (pv 0) pe_int (fun _ _ => rfl)) (pe_ix ix_tup (pv 1) pe_int (fun _ _ => rfl))) pa_nil))))), ?_⟩
    refine ⟨_, rfl, a, _, _, _, rfl, rfl, ha, atI_nat (j := 0) rfl, _, rfl, b, _, _, _, rfl, rfl, hb, atI_nat (j := 0) rfl, _, _, rfl, rfl, wide_mul bp.1 bq.1 hn hm (by omega), ?_⟩
    refine ⟨_, rfl, a, _, _, _, rfl, rfl, ha, atI_nat (j := 1) rfl, _, rfl, b, _, _, _, rfl, rfl, hb, atI_nat (j := 1) rfl, _, _, rfl, rfl, wide_mul bp.2 bq.2 hn hm (by omega), ?_⟩
    refine ⟨_, _, rfl, den_pos' p q, ?_, fun v H' s' f' => k v H' s' ?_⟩
    · show ((p.den : Int) * q.den).natAbs < _
      rw [Int.natAbs_mul]
      exact lt9000 (nat_mul_lt bp.2 bq.2) hnm
    · rw [← mul_divInt]
      exact f'

abbrev st__law_over : Stmt := topS 52
theorem sc__law_over : FnScope ["_law_one", "_law_other"] ["_law_one", "_law_other"] (defScope st__law_over) := ⟨rfl, rfl, rfl, by decide +kernel, rfl, by decide +kernel, by decide +kernel⟩
def spLOver (K : PySem.W.Frag) : Sp := fun vs H Q _ => ∃ (x y : V) (p q : Rat) (n m : Nat), vs = [x, y] ∧ FrA K H x p ∧ FrA K H y q ∧ 0 < q ∧ Bd n p ∧ Bd m q ∧ 0 < n ∧ 0 < m ∧ n + m ≤ 9000 ∧ ∀ v H', Same H H' → FrA K H' v (p / q) → Q v H'
theorem ok_law_over (D : Def K mg "_law_over" st__law_over ["_law_one", "_law_other"]) (T : Txt K mg C Cw) (c__law_frac : Cal P w K mg base "_law_frac" 2 ["_law_top", "_law_bottom"] (spLFrac K)) :
    Cal P w K mg base "_law_over" 3 ["_law_one", "_law_other"] (spLOver K) := by
  refine D.ok sc__law_over (fun vs H Q E h => ?_) (fun f cdv A outer s H vs Q E hr h => ?_)
  · obtain ⟨x, y, p, q, n, m, rfl, _⟩ := h
    rfl
  · obtain ⟨x, y, p, q, n, m, rfl, ⟨a, rfl, ha⟩, ⟨b, rfl, hb⟩, hq, bp, bq, hn, hm, hnm, k⟩ := h
    refine ⟨_, (pss_one (ps_ret (pe_cal c__law_frac (hr.mono (by decide)) (by rfl) (pa_cons (pe_op op_mulW (pe_ix ix_tup (pv 0) pe_int (fun _ _ => rfl)) (pe_ix ix_tup (pv 1) pe_int (fun _ _ => rfl))) (pa_cons (pe_op op_mulW (pe_ix ix_tup (pv 0) pe_int (fun _ _ => rfl)) (pe_ix ix_tup (pv 1) pe_int (fun _ _ => rfl))) pa_nil))))), ?_⟩
    refine ⟨_, rfl, a, _, _, _, rfl, rfl, ha, atI_nat (j := 0) rfl, _, rfl, b, _, _, _, rfl, rfl, hb, atI_nat (j := 1) rfl, _, _, rfl, rfl, wide_mul bp.1 bq.2 hn hm (by omega), ?_⟩
    refine ⟨_, rfl, a, _, _, _, rfl, rfl, ha, atI_nat (j := 1) rfl, _, rfl, b, _, _, _, rfl, rfl, hb, atI_nat (j := 0) rfl, _, _, rfl, rfl, wide_mul bp.2 bq.1 hn hm (by omega), ?_⟩
    have n1 := num_pos hq
    have n2 := p.den_pos
    refine ⟨_, _, rfl, ?_, ?_, fun v H' s' f' => k v H' s' ?_⟩
    · show 0 < (p.den : Int) * q.num
      exact Int.mul_pos (by omega) n1
    · show ((p.den : Int) * q.num).natAbs < _
      rw [Int.natAbs_mul]
      exact lt9000 (nat_mul_lt bp.2 bq.1) hnm
    · rw [← over_divInt]
      exact f'

abbrev st__law_some : Stmt := topS 53
theorem sc__law_some : FnScope ["_law_hand_here"] ["_law_hand_here"] (defScope st__law_some) := ⟨rfl, rfl, rfl, by decide +kernel, rfl, by decide +kernel, by decide +kernel⟩
def spLSome (K : PySem.W.Frag) : Sp := fun vs H Q _ => ∃ h c : Addr, vs = [.ref h] ∧ HandA H h c ∧ ∀ v (q : Rat) H', HandA H' h c → But h H H' → FrA K H' v q → 0 < q → Bd 3 q → Q v H'
theorem ok_law_some (D : Def K mg "_law_some" st__law_some ["_law_hand_here"]) (T : Txt K mg C Cw) (c__law_frac : Cal P w K mg base "_law_frac" 2 ["_law_top", "_law_bottom"] (spLFrac K)) (c__law_draw : Cal P w K mg base "_law_draw" 1 ["_law_hand_here", "_law_many"] spDraw) :
    Cal P w K mg base "_law_some" 3 ["_law_hand_here"] (spLSome K) := by
  refine D.ok sc__law_some (fun vs H Q E h => ?_) (fun f cdv A outer s H vs Q E hr h => ?_)
  · obtain ⟨h, c, rfl, _⟩ := h
    rfl
  · obtain ⟨h, c, rfl, ha, k⟩ := h
    refine ⟨_, (pss_one (ps_ret (pe_cal c__law_frac (hr.mono (by decide)) (by rfl) (pa_cons (pe_op op_add pe_int (pe_cal c__law_draw (hr.mono (by decide)) (by rfl) (pa_cons (pv 0) (pa_cons pe_int pa_nil)))) (pa_cons (pe_op op_add pe_int (pe_cal c__law_draw (hr.mono (by decide)) (by rfl) (pa_cons (pv 0) (pa_cons pe_int pa_nil)))) pa_nil))))), ?_⟩
    refine ⟨_, rfl, h, c, 6, rfl, ha, by decide, by decide, fun d1 H1 d10 d11 ha1 b1 => ?_⟩
    refine ⟨_, _, rfl, rfl, _, rfl, h, c, 4, rfl, ha1, by decide, by decide, fun d2 H2 d20 d21 ha2 b2 => ?_⟩
    refine ⟨_, _, rfl, rfl, _, _, rfl, by omega, lt9000 (m := 3) (by omega) (by decide), fun v H3 s3 f3 => ?_⟩
    refine k v _ H3 (ha2.same s3) ((b1.trans b2).trans (But.of s3)) f3 ?_ (bd_divInt (by omega) (by omega) (by omega))
    rw [Rat.divInt_eq_div]
    exact rat_div_pos (by exact_mod_cast (show (0 : Int) < 1 + d1 by omega)) (by exact_mod_cast (show (0 : Int) < 1 + d2 by omega))

abbrev st__law_shuffled : Stmt := topS 54
theorem sc__law_shuffled : FnScope ["_law_hand_here", "_law_things", "_law_pool", "_law_found"] ["_law_hand_here", "_law_things"] (defScope st__law_shuffled) := ⟨rfl, rfl, rfl, by decide +kernel, rfl, by decide +kernel, by decide +kernel⟩
def spShuf : Sp := fun vs H Q _ => ∃ (h c l : Addr) (xs : List V), vs = [.ref h, .ref l] ∧ HandA H h c ∧ H l = some (.lst xs) ∧ xs.length ≤ 900 ∧ ∀ ys p H', ys.Perm xs → H' p = some (.lst ys) → HandA H' h c → But h H H' → p ≠ h → p ≠ c → H p = none → Q (.ref p) H'
theorem ok_law_shuffled (D : Def K mg "_law_shuffled" st__law_shuffled ["_law_hand_here", "_law_things"]) (T : Txt K mg C Cw) (c__law_draw : Cal P w K mg base "_law_draw" 1 ["_law_hand_here", "_law_many"] spDraw) :
    Cal P w K mg base "_law_shuffled" 2 ["_law_hand_here", "_law_things"] spShuf := by
  refine D.ok sc__law_shuffled (fun vs H Q E h => ?_) (fun f cdv A outer s H vs Q E hr h => ?_)
  · obtain ⟨h, c, l, xs, rfl, _⟩ := h
    rfl
  · obtain ⟨h, c, l, xs, rfl, ha, hl, hz, k⟩ := h
    refine ⟨_, (pss_cons (ps_set (i := 2) sc__law_shuffled.nd rfl (Or.inl rfl) (pe_callTy call_list_of (by rfl) T.z_list (by decide +kernel) (pa_cons (pv 1) pa_nil)))
        (pss_cons (ps_set (i := 3) sc__law_shuffled.nd rfl (Or.inl rfl) (pe_lst pa_nil))
        (pss_cons (ps_while PassesOwn.never (pt_cmpR op_gt (pe_callB call_len_seq (by rfl) T.z_len (by decide +kernel) (pa_cons (pv 2) pa_nil)) pe_int (nomark _)) (pss_one (ps_expr (pe_bm PySem.F.plainAttrs_list PySem.F.slot_list_append PySem.F.type_list_append mt_append (pv 3) (pa_cons (pe_bm PySem.F.plainAttrs_list PySem.F.slot_list_pop PySem.F.type_list_pop mt_popAt (pv 2) (pa_cons (pe_cal c__law_draw (hr.mono (by decide)) (by rfl) (pa_cons (pv 0) (pa_cons (pe_callB call_len_seq (by rfl) T.z_len (by decide +kernel) (pa_cons (pv 2) pa_nil)) pa_nil))) pa_nil)) pa_nil)))))
        (pss_one (ps_ret (pv 3)))))), ?_⟩
    refine ⟨_, rfl, l, xs, rfl, .inl (SqL.of hl), fun P0 hP0 => ?_⟩
    refine ⟨by show 0 ≤ sizeLine; exact Nat.zero_le _, fun F0 hF0 => ?_⟩
    have sA := (same_upd (o := .lst xs) hP0).trans (same_upd (o := .lst []) hF0)
    have hF0H : H F0 = none := (same_upd (o := .lst xs) hP0).free hF0
    have fp : F0 ≠ P0 := (ne_of_none upd_same hF0).symm
    obtain ⟨ys0, hh⟩ := ha.lst
    obtain ⟨ys1, hc⟩ := ha.cells
    have hP : h ≠ P0 := ne_of_none hh hP0
    have hF : h ≠ F0 := ne_of_none hh hF0H
    have cP : c ≠ P0 := ne_of_none hc hP0
    have cF : c ≠ F0 := ne_of_none hc hF0H
    refine ⟨fun m σ H' => ∃ ps fs : List V, H' P0 = some (.lst ps) ∧ H' F0 = some (.lst fs) ∧ (fs ++ ps).Perm xs ∧ HandA H' h c ∧ But h H H' ∧ σ = [some (.ref h), some (.ref l), some (.ref P0), some (.ref F0)] ∧ m = ps.length,
      ⟨_, xs, [], (same_upd (o := .lst []) hF0) _ _ upd_same, upd_same, .refl _, ha.same sA, But.of sA, rfl, rfl⟩, ?_⟩
    rintro m σ H1 ⟨ps, fs, h1, h2, hp, ha1, hb, rfl, rfl⟩
    have hpl := hp.length_eq
    rw [List.length_append] at hpl
    refine ⟨_, rfl, P0, _, rfl, .inl (SqL.of h1), _, _, rfl, rfl, _, rfl, ?_⟩
    by_cases cz : ps.length = 0
    · have e := List.length_eq_zero_iff.mp cz
      subst e
      rw [List.append_nil] at hp
      exact iteN (by simp) ⟨_, rfl, k fs F0 H1 hp h2 ha1 hb hF.symm cF.symm hF0H⟩
    · refine iteY (by simp; omega) ⟨fun σ' H'' => ∃ m', m' < _ ∧ _, fun σ' H' z => z, ?_⟩
      refine ⟨_, rfl, .inl ⟨rfl, _, SqL.of h2⟩, _, rfl, .inl ⟨rfl, _, SqL.of h1⟩, ?_⟩
      refine ⟨_, rfl, _, rfl, P0, ps, rfl, .inl (SqL.of h1), h, c, ps.length, rfl, ha1, by omega, by omega, fun d H2 d0 d1 ha2 b2 => ?_⟩
      have h3 := b2 _ _ (Ne.symm hP) h1
      have h4 := b2 _ _ (Ne.symm hF) h2
      obtain ⟨j, rfl⟩ := Int.eq_ofNat_of_zero_le d0
      have hj : j < ps.length := by omega
      refine ⟨P0, ps, (j : Int), j, ps[j], rfl, rfl, h3, by omega, by omega, PySem.seqIndex_of d0 d1, by simp [hj], ?_⟩
      have h5 : upd H2 P0 (.lst (ps.eraseIdx j)) F0 = some (.lst fs) := by
        rw [upd_ne fp]
        exact h4
      refine ⟨F0, fs, ps[j], rfl, rfl, h5, small1000 (by omega), ?_⟩
      refine ⟨(ps.eraseIdx j).length, by rw [List.length_eraseIdx, if_pos hj]; omega, ps.eraseIdx j, fs ++ [ps[j]], by rw [upd_ne fp.symm, upd_same], upd_same, ?_, (ha2.set hP cP).set hF cF, ((hb.trans b2).mut hP0).mut hF0H, rfl, rfl⟩
      rw [List.append_assoc]
      exact (List.Perm.append_left fs (erase_perm hj)).trans hp

abbrev st__law_stall : Stmt := topS 55
theorem sc__law_stall : FnScope ["_law_hand_here", "_law_one", "_law_other", "_law_quotient", "_law_root"] ["_law_hand_here", "_law_one", "_law_other", "_law_quotient"] (defScope st__law_stall) := ⟨rfl, rfl, rfl, by decide +kernel, rfl, by decide +kernel, by decide +kernel⟩
def spLStall (K : PySem.W.Frag) : Sp := fun vs H Q _ => ∃ (h c : Addr) (a b : Int) (u : V) (q : Rat), vs = [.ref h, .int a, .int b, u] ∧ HandA H h c ∧ FrA K H u q ∧ 0 < q ∧ Bd 6 q ∧
  ∀ v (r : Rat) H', HandA H' h c → But h H H' → StA K H' v ⟨a, b, r * q, r / q, r⟩ → 0 < r → Bd 3 r → Q v H'
theorem ok_law_stall (D : Def K mg "_law_stall" st__law_stall ["_law_hand_here", "_law_one", "_law_other", "_law_quotient"]) (T : Txt K mg C Cw) (c__law_some : Cal P w K mg base "_law_some" 3 ["_law_hand_here"] (spLSome K))
    (c__law_times : Cal P w K mg base "_law_times" 3 ["_law_one", "_law_other"] (spTimes K)) (c__law_over : Cal P w K mg base "_law_over" 3 ["_law_one", "_law_other"] (spLOver K)) :
    Cal P w K mg base "_law_stall" 4 ["_law_hand_here", "_law_one", "_law_other", "_law_quotient"] (spLStall K) := by
  refine D.ok sc__law_stall (fun vs H Q E h => ?_) (fun f cdv A outer s H vs Q E hr h => ?_)
  · obtain ⟨h, c, a, b, u, q, rfl, _⟩ := h
    rfl
  · obtain ⟨h, c, a, b, u, q, rfl, ha, hu, q0, bq, k⟩ := h
    refine ⟨_, (pss_cons (ps_set (i := 4) sc__law_stall.nd rfl (Or.inl rfl) (pe_cal c__law_some (hr.mono (by decide)) (by rfl) (pa_cons (pv 0) pa_nil)))
        (pss_one (ps_ret (pe_tup (pa_cons (pv 1) (pa_cons (pv 2) (pa_cons (pe_cal c__law_times (hr.mono (by decide)) (by rfl) (pa_cons (pv 4) (pa_cons (pv 3) pa_nil))) (pa_cons (pe_cal c__law_over (hr.mono (by decide)) (by rfl) (pa_cons (pv 4) (pa_cons (pv 3) pa_nil))) (pa_cons (pv 4) pa_nil))))))))), ?_⟩
    obtain ⟨ys0, hh⟩ := ha.lst
    refine ⟨_, rfl, h, c, rfl, ha, fun v4 r H1 ha1 b1 f1 r0 br => ?_⟩
    have hu1 := hu.keep (b1.keep hh)
    refine ⟨_, rfl, _, rfl, _, rfl, _, rfl, v4, u, r, q, 3, 6, rfl, f1, hu1, br, bq, by decide, by decide, by decide, fun v5 H2 s2 f2 => ?_⟩
    refine ⟨_, rfl, _, rfl, v4, u, r, q, 3, 6, rfl, f1.same s2, hu1.same s2, q0, br, bq, by decide, by decide, by decide, fun v6 H3 s3 f3 => ?_⟩
    refine ⟨_, rfl, by show 5 ≤ sizeLine; decide, fun p hp => ?_⟩
    have s4 := same_upd (o := .tup [.int a, .int b, v5, v6, v4]) hp
    refine k _ r _ (((ha1.same s2).same s3).same s4) (b1.trans (But.of ((s2.trans s3).trans s4))) ⟨p, v5, v6, v4, rfl, SqT.of upd_same, (f2.same s3).same s4, f3.same s4, f1.same ((s2.trans s3).trans s4)⟩ r0 br
end
end K32
end

section
set_option Elab.async false
set_option linter.all false
set_option maxRecDepth 100000
set_option maxHeartbeats 4000000
/-! K32LC: the law's drawn stalls. -/
namespace K32
open PySem PySem.Spec PyProof.Rows L2
theorem mod_ne {n a d : Int} (a0 : 0 ≤ a) (a1 : a < n) (d0 : 0 ≤ d) (d1 : d < n - 1) : (a + 1 + d) % n ≠ a := by
  intro e
  have h1 := Int.mul_ediv_add_emod (a + 1 + d) n
  rw [e] at h1
  rcases Int.lt_or_le ((a + 1 + d) / n) 1 with h | h
  · have : n * ((a + 1 + d) / n) ≤ 0 := Int.mul_nonpos_of_nonneg_of_nonpos (by omega) (by omega)
    omega
  · have : n * 1 ≤ n * ((a + 1 + d) / n) := Int.mul_le_mul_of_nonneg_left h (by omega)
    omega
theorem good_drawn {n a b : Int} {r q : Rat} (a0 : 0 ≤ a) (a1 : a < n) (b0 : 0 ≤ b) (b1 : b < n) (ne : a ≠ b) (r0 : 0 < r) (q0 : 0 < q) : GoodS n ⟨a, b, r * q, r / q, r⟩ := by
  refine ⟨a0, a1, b0, b1, ne, Rat.mul_pos r0 q0, rat_div_pos r0 q0, r0, ?_⟩
  show r * q * (r / q) = r * r
  have e : r / q * q = r := Rat.div_mul_cancel (by intro z; rw [z] at q0; exact absurd q0 (by decide +kernel))
  have : r * q * (r / q) = r * (r / q * q) := by grind
  rw [this, e]
theorem bd_drawn {a b : Int} {r q : Rat} (br : Bd 3 r) (bq : Bd 6 q) (q0 : 0 < q) : BdS ⟨a, b, r * q, r / q, r⟩ :=
  ⟨(br.mul bq).mono (by omega), (br.over bq (by have := num_pos q0; omega)).mono (by omega), br.mono (by omega)⟩
theorem fit_drawn {a b : Int} {r : Rat} {s : Int → Rat} (p : ∀ w, 0 < s w) : FitS s ⟨a, b, r * (s b / s a), r / (s b / s a), r⟩ := by
  show s a * (r * (s b / s a)) = s b * r
  have pa := p a
  have e : s b / s a * s a = s b := Rat.div_mul_cancel (by intro z; rw [z] at pa; exact absurd pa (by decide +kernel))
  have : s a * (r * (s b / s a)) = (s b / s a * s a) * r := by grind
  rw [this, e]
theorem paired_perm {α β : Type} {R : α → β → Prop} {ys xs : List α} (h : ys.Perm xs) : ∀ {S : List β}, Paired R xs S → ∃ T, Paired R ys T ∧ T.Perm S := by
  induction h with
  | nil =>
    intro S p
    cases p
    exact ⟨[], .nil, .refl _⟩
  | cons a _ ih =>
    intro S p
    cases p with
    | cons q t =>
      obtain ⟨T, h1, h2⟩ := ih t
      exact ⟨_ :: T, .cons q h1, .cons _ h2⟩
  | swap a b l =>
    intro S p
    cases p with
    | cons q t =>
      cases t with
      | cons q2 t2 => exact ⟨_ :: _ :: _, .cons q2 (.cons q t2), .swap _ _ _⟩
  | trans _ _ ih1 ih2 =>
    intro S p
    obtain ⟨T, h1, h2⟩ := ih2 p
    obtain ⟨U, h3, h4⟩ := ih1 h1
    exact ⟨U, h3, h4.trans h2⟩
def scOf (qs : List Rat) : Int → Rat := fun w => (qs[w.toNat]?).getD 1
theorem scOf_pos {qs : List Rat} (h : ∀ q ∈ qs, 0 < q ∧ Bd 3 q) (w : Int) : 0 < scOf qs w := by
  unfold scOf
  cases e : qs[w.toNat]? with
  | none => show (0 : Rat) < 1; decide +kernel
  | some q => exact (h q (List.mem_of_getElem? e)).1
theorem scOf_at {K : PySem.W.Frag} {H : Hp} {vs : List V} {qs : List Rat} (p : Paired (FrA K H) vs qs) (h : ∀ q ∈ qs, 0 < q ∧ Bd 3 q) {w : Int} (w0 : 0 ≤ w) (w1 : w < vs.length) : ∃ v, atI vs w = some v ∧ FrA K H v (scOf qs w) ∧ Bd 3 (scOf qs w) := by
  obtain ⟨j, rfl⟩ := Int.eq_ofNat_of_zero_le w0
  have hj : j < vs.length := by omega
  obtain ⟨q, e, f⟩ := paired_get p (List.getElem?_eq_getElem hj)
  refine ⟨vs[j], atI_nat (by simp [hj]), ?_⟩
  have : scOf qs (j : Int) = q := by
    unfold scOf
    rw [Int.toNat_natCast, e]
    rfl
  rw [this]
  exact ⟨f, (h q (List.mem_of_getElem? e)).2⟩
section
variable {P : Program} {w : World} {K : PySem.W.Frag} {mg : Str → Option Value} {base : Heap} {C Cw : Addr}

abbrev st__law_stalls : Stmt := topS 56
theorem sc__law_stalls : FnScope ["_law_hand_here", "_law_wares", "_law_many", "_law_way", "_law_scales", "_law_hung", "_law_odd", "_law_found", "_law_k", "_law_one", "_law_other", "_law_quotient", "_law_ware"] ["_law_hand_here", "_law_wares", "_law_many", "_law_way"] (defScope st__law_stalls) := ⟨rfl, rfl, rfl, by decide +kernel, rfl, by decide +kernel, by decide +kernel⟩
def spLStalls (K : PySem.W.Frag) : Sp := fun vs H Q _ => ∃ (h c : Addr) (n : Int) (many way : Int), vs = [.ref h, .int n, .int many, .int way] ∧ HandA H h c ∧ 2 ≤ n ∧ n ≤ 8 ∧ 0 ≤ many ∧ many ≤ 8 ∧
  ∀ l xs S H', HandA H' h c → But h H H' → H' l = some (.lst xs) → l ≠ h → H l = none → StAll K H' xs S → GoodW n S → (way = 1 → Fits S) → (way = 2 → Nearly S) → Q (.ref l) H'
theorem ok_law_stalls (D : Def K mg "_law_stalls" st__law_stalls ["_law_hand_here", "_law_wares", "_law_many", "_law_way"]) (T : Txt K mg C Cw) (c__law_draw : Cal P w K mg base "_law_draw" 1 ["_law_hand_here", "_law_many"] spDraw)
    (c__law_some : Cal P w K mg base "_law_some" 3 ["_law_hand_here"] (spLSome K)) (c__law_over : Cal P w K mg base "_law_over" 3 ["_law_one", "_law_other"] (spLOver K))
    (c__law_stall : Cal P w K mg base "_law_stall" 4 ["_law_hand_here", "_law_one", "_law_other", "_law_quotient"] (spLStall K)) (c__law_shuffled : Cal P w K mg base "_law_shuffled" 2 ["_law_hand_here", "_law_things"] spShuf) :
    Cal P w K mg base "_law_stalls" 5 ["_law_hand_here", "_law_wares", "_law_many", "_law_way"] (spLStalls K) := by
  refine D.ok sc__law_stalls (fun vs H Q E h => ?_) (fun f cdv A outer s H vs Q E hr h => ?_)
  · obtain ⟨h, c, n, many, way, rfl, _⟩ := h
    rfl
  · obtain ⟨h, c, n, many, way, rfl, ha, n2, n8, m0, m8, k⟩ := h
    refine ⟨_, (pss_cons (ps_setLc (i := 4) (own := [("_law_ware", 12)]) (by rfl) sc__law_stalls.nd rfl rfl (sw_true rfl rfl rfl (by decide +kernel)) (pi_range1 (by rfl) T.z_range (pa_cons (pv 1) pa_nil)) (blkOk_by (own := [("_law_ware", 12)]) (by kernel_rfl)) (fun _ _ _ _ _ => (pg_name (i := 12) sc__law_stalls.nd rfl (Or.inl rfl))) (fun _ _ _ _ _ => pts_nil) (fun _ _ _ _ _ => (pe_cal c__law_some (hr.mono (by decide)) (by rfl) (pa_cons (pv 0) pa_nil))))
        (pss_cons (ps_set (i := 5) sc__law_stalls.nd rfl (Or.inl rfl) (pe_cmpR op_gt (pe_cal c__law_draw (hr.mono (by decide)) (by rfl) (pa_cons (pv 0) (pa_cons pe_int pa_nil))) pe_int (nomark _)))
        (pss_cons (ps_set (i := 6) sc__law_stalls.nd rfl (Or.inl rfl) (pe_cal c__law_draw (hr.mono (by decide)) (by rfl) (pa_cons (pv 0) (pa_cons (pe_op op_add (pv 2) pe_int) pa_nil))))
        (pss_cons (ps_set (i := 7) sc__law_stalls.nd rfl (Or.inl rfl) (pe_lst pa_nil))
        (pss_cons (ps_for PassesOwn.never rfl (pi_range1 (by rfl) T.z_range (pa_cons (pe_op op_mul (pv 2) (pe_callTy call_int1 (by rfl) T.z_int (by decide +kernel) (pa_cons (pe_cmpR op_gt (pv 1) pe_int (nomark _)) pa_nil))) pa_nil)) (pg_name (i := 8) sc__law_stalls.nd rfl (Or.inl rfl)) (pss_cons (ps_set (i := 9) sc__law_stalls.nd rfl (Or.inl rfl) (pe_cal c__law_draw (hr.mono (by decide)) (by rfl) (pa_cons (pv 0) (pa_cons (pv 1) pa_nil))))
        (pss_cons (ps_set (i := 10) sc__law_stalls.nd rfl (Or.inl rfl) (pe_op op_mod (pe_callTy call_int1 (by rfl) T.z_int (by decide +kernel) (pa_cons (pe_op op_add (pe_op op_add (pv 9) pe_int) (pe_cal c__law_draw (hr.mono (by decide)) (by rfl) (pa_cons (pv 0) (pa_cons (pe_op op_sub (pv 1) pe_int) pa_nil)))) pa_nil)) (pv 1)))
        (pss_cons (ps_if (PW.pt (pw_and (pt_val (pv 5)) (pw_and1 (pt_cmpR op_lt (pe_op op_add (pv 8) pe_int) (pv 1) (nomark _))))) (pss_cons (ps_asg (pe_ix ix_list (pe_lst (pa_cons (pe_tup (pa_cons (pe_op op_add (pv 8) pe_int) (pa_cons (pe_cal c__law_draw (hr.mono (by decide)) (by rfl) (pa_cons (pv 0) (pa_cons (pe_op op_add (pv 8) pe_int) pa_nil))) pa_nil))) (pa_cons (pe_tup (pa_cons (pe_op op_add (pv 8) pe_int) (pa_cons (pv 8) pa_nil))) pa_nil))) (pe_cal c__law_draw (hr.mono (by decide)) (by rfl) (pa_cons (pv 0) (pa_cons pe_int pa_nil))) (fun _ _ => rfl)) (pg_tup (n := 2) rfl (pgs_cons (pg_name (i := 9) sc__law_stalls.nd rfl (Or.inl rfl)) (pgs_cons (pg_name (i := 10) sc__law_stalls.nd rfl (Or.inl rfl)) pgs_nil))))
        (pss_one (ps_if (pt_cmpR op_eq (pe_cal c__law_draw (hr.mono (by decide)) (by rfl) (pa_cons (pv 0) (pa_cons pe_int pa_nil))) pe_int (nomark _)) (pss_one (ps_par (i := 9) (j := 10) (by rfl) sc__law_stalls.nd rfl rfl (by decide) rfl rfl (pa_cons (pv 10) (pa_cons (pv 9) pa_nil)) (by rfl))) pss_nil))) pss_nil)
        (pss_cons (ps_set (i := 11) sc__law_stalls.nd rfl (Or.inl rfl) (pe_cal c__law_over (hr.mono (by decide)) (by rfl) (pa_cons (pe_ix ix_list (pv 4) (pv 10) (fun _ _ => rfl)) (pa_cons (pe_ix ix_list (pv 4) (pv 9) (fun _ _ => rfl)) pa_nil))))
        (pss_cons (ps_if (PW.pt (pw_or (pt_cmpR op_eq (pv 3) pe_int (nomark _)) (pw_or1 (PW.pt (pw_and (pt_cmpR op_eq (pv 3) pe_int (nomark _)) (pw_and1 (pt_cmpR op_eq (pv 8) (pv 6) (nomark _)))))))) (pss_one (ps_set (i := 11) sc__law_stalls.nd rfl (Or.inl rfl) (pe_cal c__law_some (hr.mono (by decide)) (by rfl) (pa_cons (pv 0) pa_nil)))) pss_nil)
        (pss_one (ps_expr (pe_bm PySem.F.plainAttrs_list PySem.F.slot_list_append PySem.F.type_list_append mt_append (pv 7) (pa_cons (pe_cal c__law_stall (hr.mono (by decide)) (by rfl) (pa_cons (pv 0) (pa_cons (pv 9) (pa_cons (pv 10) (pa_cons (pv 11) pa_nil))))) pa_nil))))))))))
        (pss_one (ps_ret (pe_cal c__law_shuffled (hr.mono (by decide)) (by rfl) (pa_cons (pv 0) (pa_cons (pv 7) pa_nil)))))))))), ?_⟩
    refine ⟨_, rfl, n, rfl, by omega, by omega, fun Ds hDs => ?_⟩
    obtain ⟨ys0, hh⟩ := ha.lst
    obtain ⟨ys1, hc⟩ := ha.cells
    have hD : h ≠ Ds := ne_of_none hh hDs
    have cD : c ≠ Ds := ne_of_none hc hDs
    refine lc_range (Pv := fun i H' => HandA H' h c ∧ But h H H' ∧ ∃ (vs : List V) (qs : List Rat), H' Ds = some (.lst vs) ∧ Paired (FrA K H') vs qs ∧ (∀ q ∈ qs, 0 < q ∧ Bd 3 q) ∧ vs.length = i) ⟨ha.free hDs, But.of (same_upd hDs), [], [], upd_same, .nil, by simp, rfl⟩ ?_ ?_
    · rintro i H1 hi ⟨ha1, b1, vs, qs, d1, d2, d3, d4⟩
      obtain ⟨ys2, hh1⟩ := ha1.lst
      refine ⟨rfl, yes_if ⟨_, rfl, h, c, rfl, ha1, fun v q H2 ha2 b2 f2 q0 bq => ?_⟩⟩
      have d5 := b2 _ _ (Ne.symm hD) d1
      have hk := sqT_lst (K := K) (o2 := .lst (vs ++ [v])) d5
      refine ⟨vs, d5, small1000 (by omega), ha2.set hD cD, (b1.trans b2).mut hDs, vs ++ [v], qs ++ [q], upd_same, ?_, fun y hy => ?_, by simp [d4]⟩
      · exact paired_app (Paired.mapP d2 fun _ _ z => (z.keep (b2.keep hh1)).keep hk) (.cons (f2.keep hk) .nil)
      · rcases List.mem_append.mp hy with hy | hy
        · exact d3 y hy
        · rw [List.mem_singleton.mp hy]
          exact ⟨q0, bq⟩
    · rintro H1 ⟨ha1, b1, vsq, qs, d1, d2, d3, d4⟩
      have hpos := scOf_pos d3
      refine ⟨_, rfl, h, c, 3, rfl, ha1, by decide, by decide, fun dh H2 _ _ ha2 b2 => ?_⟩
      refine ⟨_, _, rfl, rfl, _, rfl, _, rfl, _, _, rfl, rfl, h, c, many + 1, rfl, ha2, by omega, by omega, fun od H3 od0 od1 ha3 b3 => ?_⟩
      have b13 := (b1.trans b2).trans b3
      obtain ⟨ys2, hh1⟩ := ha1.lst
      have d5 := (b2.trans b3) _ _ (Ne.symm hD) d1
      have d6 : Paired (FrA K H3) vsq qs := Paired.mapP d2 fun _ _ z => z.keep ((b2.trans b3).keep hh1)
      refine ⟨by show 0 ≤ sizeLine; exact Nat.zero_le _, fun F0 hF0 => ?_⟩
      have sF := same_upd (o := .lst []) hF0
      obtain ⟨ys3, hh3⟩ := ha3.lst
      obtain ⟨ys4, hc3⟩ := ha3.cells
      have hF : h ≠ F0 := ne_of_none hh3 hF0
      have cF : c ≠ F0 := ne_of_none hc3 hF0
      have dF : Ds ≠ F0 := ne_of_none d5 hF0
      have hF0H : H F0 = none := by
        cases e : H F0 with
        | none => rfl
        | some o => rw [b13 _ _ (Ne.symm hF) e] at hF0; cases hF0
      refine ⟨_, rfl, _, rfl, _, _, rfl, rfl, .inr ⟨_, rfl, _, _, rfl, rfl, .inr ?_, many, ?_, by omega, by omega, ?_⟩⟩
      · show -(2 ^ 64) < (if decide (1 < n) = true then (1 : Int) else 0) ∧ (if decide (1 < n) = true then (1 : Int) else 0) < 2 ^ 64
        split <;> decide
      · rw [if_pos (decide_eq_true (by omega))]
        show [V.int (many * 1)] = [V.int many]
        rw [Int.mul_one]
      refine for_range (fun i σ H' => HandA H' h c ∧ But h H H' ∧ H' Ds = some (.lst vsq) ∧ Paired (FrA K H') vsq qs ∧ ∃ (fs : List V) (S0 : List Stall) (u8 u9 u10 u11 : Option V), H' F0 = some (.lst fs) ∧ StAll K H' fs S0 ∧ S0.length = i ∧ (∀ st ∈ S0, GoodS n st ∧ BdS st) ∧
        (way = 1 → ∀ st ∈ S0, FitS (scOf qs) st) ∧ (way = 2 → ∃ B G, S0.Perm (B ++ G) ∧ B.length ≤ (if od < i then 1 else 0) ∧ ∀ st ∈ G, FitS (scOf qs) st) ∧
        σ = [some (.ref h), some (.int n), some (.int many), some (.int way), some (.ref Ds), some (.bl (decide (0 < dh))), some (.int od), some (.ref F0), u8, u9, u10, u11, none]) ?_ ?_ ?_
      · exact ⟨ha3.same sF, b13.trans (But.of sF), sF _ _ d5, Paired.mapP d6 fun _ _ z => z.same sF, [], [], _, _, _, _, upd_same, .nil, rfl, by simp, by simp, fun _ => ⟨[], [], .refl _, by simp, by simp⟩, rfl⟩
      · rintro i σ Hs hi ⟨haS, bS, e1, e2, fs, S0, u8, u9, u10, u11, e3, e4, e5, e6, e7, e8, rfl⟩
        rw [Int.zero_add]
        have hi8 : i < 8 := by omega
        obtain ⟨ysS, hhS⟩ := haS.lst
        have fin : ∀ (a b : Int) (vq : V) (q : Rat) (H' : Hp), 0 ≤ a → a < n → 0 ≤ b → b < n → a ≠ b → HandA H' h c → But h Hs H' → FrA K H' vq q → 0 < q → Bd 6 q → (way = 1 ∨ (way = 2 ∧ od ≠ i) → q = scOf qs b / scOf qs a) →
            ∀ (v : V) (r : Rat) (H9 : Hp), HandA H9 h c → But h H' H9 → StA K H9 v ⟨a, b, r * q, r / q, r⟩ → 0 < r → Bd 3 r → ∃ fs' : List V, H9 F0 = some (.lst fs') ∧ fs'.length < 1000 ∧
              (fun i σ H' => HandA H' h c ∧ But h H H' ∧ H' Ds = some (.lst vsq) ∧ Paired (FrA K H') vsq qs ∧ ∃ (fs : List V) (S0 : List Stall) (u8 u9 u10 u11 : Option V), H' F0 = some (.lst fs) ∧ StAll K H' fs S0 ∧ S0.length = i ∧ (∀ st ∈ S0, GoodS n st ∧ BdS st) ∧
                (way = 1 → ∀ st ∈ S0, FitS (scOf qs) st) ∧ (way = 2 → ∃ B G, S0.Perm (B ++ G) ∧ B.length ≤ (if od < i then 1 else 0) ∧ ∀ st ∈ G, FitS (scOf qs) st) ∧
                σ = [some (.ref h), some (.int n), some (.int many), some (.int way), some (.ref Ds), some (.bl (decide (0 < dh))), some (.int od), some (.ref F0), u8, u9, u10, u11, none]) (i + 1)
                [some (.ref h), some (.int n), some (.int many), some (.int way), some (.ref Ds), some (.bl (decide (0 < dh))), some (.int od), some (.ref F0), some (.int i), some (.int a), some (.int b), some vq, none] (upd H9 F0 (.lst (fs' ++ [v]))) := by
          intro a b vq q H' a0 a1 b0 b1' ne hA' bb fq q0 bq hq v r H9 hA9 b9 hst r0 br
          have bS9 := bb.trans b9
          have g1 := bS9 _ _ (Ne.symm hF) e3
          have hk9 := bS9.keep (K := K) hhS
          have hk := sqT_lst (K := K) (o2 := .lst (fs ++ [v])) g1
          have hfl := e4.len
          have gs := good_drawn a0 a1 b0 b1' ne r0 q0
          have bs : BdS ⟨a, b, r * q, r / q, r⟩ := bd_drawn br bq q0
          refine ⟨fs, g1, by omega, hA9.set hF cF, ((bS.trans bS9).mut hF0H), ?_, Paired.mapP e2 fun _ _ z => (z.keep hk9).keep hk, fs ++ [v], S0 ++ [⟨a, b, r * q, r / q, r⟩], _, _, _, _, upd_same, ?_, by simp [e5], fun st hm => ?_, fun hw1 st hm => ?_, fun hw2 => ?_, rfl⟩
          · rw [upd_ne dF]
            exact bS9 _ _ (Ne.symm hD) e1
          · exact StAll.app (Paired.mapP e4 fun _ _ z => (z.keep hk9).keep hk) (.cons (hst.keep hk) .nil)
          · rcases List.mem_append.mp hm with hm | hm
            · exact e6 st hm
            · rw [List.mem_singleton.mp hm]
              exact ⟨gs, bs⟩
          · rcases List.mem_append.mp hm with hm | hm
            · exact e7 hw1 st hm
            · rw [List.mem_singleton.mp hm, hq (.inl hw1)]
              exact fit_drawn hpos
          · obtain ⟨B, G, p1, p2, p3⟩ := e8 hw2
            by_cases co : od = i
            · refine ⟨⟨a, b, r * q, r / q, r⟩ :: B, G, ?_, ?_, p3⟩
              · exact (List.perm_append_comm).trans (List.Perm.cons _ p1)
              · have n1 : ¬ od < (i : Int) := by omega
                have n2' : od < ((i + 1 : Nat) : Int) := by omega
                rw [if_neg n1] at p2
                rw [if_pos n2', List.length_cons]
                omega
            · refine ⟨B, G ++ [⟨a, b, r * q, r / q, r⟩], ?_, ?_, fun st hm => ?_⟩
              · rw [← List.append_assoc]
                exact List.Perm.append_right _ p1
              · by_cases co2 : od < i
                · have n2' : od < ((i + 1 : Nat) : Int) := by omega
                  rw [if_pos co2] at p2
                  rw [if_pos n2']
                  exact p2
                · rw [if_neg co2] at p2
                  exact Nat.le_trans p2 (Nat.zero_le _)
              · rcases List.mem_append.mp hm with hm | hm
                · exact p3 st hm
                · rw [List.mem_singleton.mp hm, hq (.inr ⟨hw2, co⟩)]
                  exact fit_drawn hpos
        refine ⟨_, rfl, _, rfl, h, c, n, rfl, haS, by omega, by omega, fun a1 H5 a10 a11 ha5 b5 => ?_⟩
        refine ⟨_, rfl, _, _, rfl, rfl, _, rfl, _, rfl, _, _, rfl, rfl, h, c, n - 1, rfl, ha5, by omega, by omega, fun dd H6 dd0 dd1 ha6 b6 => ⟨_, _, rfl, rfl, .inl ⟨_, rfl, _, rfl, _, _, rfl, rfl, by show 0 < n; omega, ?_⟩⟩⟩
        have m1 := Int.emod_nonneg (a1 + 1 + dd) (show n ≠ 0 by omega)
        have m2 := Int.emod_lt_of_pos (a1 + 1 + dd) (show 0 < n by omega)
        have m3 := mod_ne a10 a11 dd0 dd1
        have b56 := b5.trans b6
        refine gName_of ?_
        dsimp only
        refine (seq_cut (fun σ H' => ∃ (a b : Int) (u11 : Option V), 0 ≤ a ∧ a < n ∧ 0 ≤ b ∧ b < n ∧ a ≠ b ∧ HandA H' h c ∧ But h Hs H' ∧
          σ = [some (.ref h), some (.int n), some (.int many), some (.int way), some (.ref Ds), some (.bl (decide (0 < dh))), some (.int od), some (.ref F0), some (.int i), some (.int a), some (.int b), u11, none]) ?rest ?_)
        case rest =>
          rintro σ H7 ⟨a, b, u11, a0, a1, b0, b1', ne, ha7, b7, rfl⟩
          have f1 := b7 _ _ (Ne.symm hD) e1
          have f2 : Paired (FrA K H7) vsq qs := Paired.mapP e2 fun _ _ z => z.keep (b7.keep hhS)
          obtain ⟨va, va1, va2, va3⟩ := scOf_at f2 d3 a0 (by clear e8 e7 fin; omega)
          obtain ⟨vb, vb1, vb2, vb3⟩ := scOf_at f2 d3 b0 (by clear e8 e7 fin; omega)
          refine ⟨_, rfl, _, rfl, Ds, vsq, b, vb, rfl, rfl, SqL.of f1, vb1, _, rfl, _, rfl, Ds, vsq, a, va, rfl, rfl, SqL.of f1, va1, vb, va, scOf qs b, scOf qs a, 3, 3, rfl, vb2, va2, hpos a, vb3, va3, by decide, by decide, by decide, fun vq H8 s8 fq => ?_⟩
          refine gName_of ?_
          dsimp only
          refine (seq_cut (fun σ H' => ∃ (vq : V) (q : Rat), HandA H' h c ∧ But h Hs H' ∧ FrA K H' vq q ∧ 0 < q ∧ Bd 6 q ∧ (way = 1 ∨ (way = 2 ∧ od ≠ i) → q = scOf qs b / scOf qs a) ∧
            σ = [some (.ref h), some (.int n), some (.int many), some (.int way), some (.ref Ds), some (.bl (decide (0 < dh))), some (.int od), some (.ref F0), some (.int i), some (.int a), some (.int b), some vq, none]) ?rest2 ?_)
          case rest2 =>
            rintro σ H9 ⟨vq, q, ha9, b9, fq9, q0, bq, hq, rfl⟩
            have g3 := b9 _ _ (Ne.symm hF) e3
            refine ⟨_, rfl, .inl ⟨rfl, _, SqL.of g3⟩, _, rfl, _, rfl, _, rfl, _, rfl, h, c, a, b, vq, q, rfl, ha9, fq9, q0, bq, fun v r H10 hA10 b10 hst r0 br => ?_⟩
            obtain ⟨fs', k1, k2, k3⟩ := fin a b vq q H9 a0 a1 b0 b1' ne ha9 b9 fq9 q0 bq hq v r H10 hA10 b10 hst r0 br
            exact ⟨F0, fs', v, rfl, rfl, k1, small1000 (Nat.le_of_lt k2), k3⟩
          intro rest2
          have yes := rest2 _ H8 ⟨vq, scOf qs b / scOf qs a, ha7.same s8, b7.trans (But.of s8), fq, rat_div_pos (hpos b) (hpos a), vb3.over va3 (by have := num_pos (hpos a); omega), fun _ => rfl, rfl⟩
          have take := fun (no : ¬ (way = 1 ∨ (way = 2 ∧ od ≠ i))) (v : V) (q : Rat) (H9 : Hp) (hA9 : HandA H9 h c) (b9 : But h H8 H9) (f9 : FrA K H9 v q) (q0 : 0 < q) (bq : Bd 3 q) =>
            rest2 _ H9 ⟨v, q, hA9, (b7.trans (But.of s8)).trans b9, f9, q0, bq.mono (by decide), fun z => absurd z no, rfl⟩
          refine ⟨_, rfl, rfl, _, rfl, ?_⟩
          by_cases cw : way = 0
          · exact iteY (decide_eq_true (by rw [cw])) (iteT ⟨_, rfl, h, c, rfl, ha7.same s8, take (by omega)⟩)
          · refine iteN (decide_eq_false fun z => cw (V.int.inj z)) ?_
            refine ⟨_, rfl, rfl, _, rfl, ?_⟩
            by_cases c2 : way = 2
            · refine iteY (decide_eq_true (by rw [c2])) ?_
              refine ⟨_, rfl, _, rfl, rfl, _, rfl, ?_⟩
              by_cases co : (i : Int) = od
              · exact iteY (decide_eq_true (by rw [co])) ⟨_, rfl, h, c, rfl, ha7.same s8, take (by omega)⟩
              · exact iteN (decide_eq_false fun z => co (V.int.inj z)) yes
            · refine iteN (decide_eq_false fun z => c2 (V.int.inj z)) ?_
              exact iteF yes
        intro rest
        have skip := rest _ H6 ⟨a1, (a1 + 1 + dd) % n, u11, a10, a11, m1, m2, Ne.symm m3, ha6, b56, rfl⟩
        refine ⟨_, rfl, decide (0 < dh), rfl, ?_⟩
        by_cases hq : 0 < dh
        case neg => exact iteN (decide_eq_false hq) (iteF skip)
        case pos =>
          refine iteY (decide_eq_true hq) ⟨_, rfl, _, _, rfl, rfl, _, rfl, _, _, rfl, rfl, _, rfl, ?_⟩
          by_cases ck' : (i : Int) + 1 < n
          case neg => exact iteN (decide_eq_false ck') skip
          refine iteY (decide_eq_true ck') ?_
          refine ⟨_, rfl, _, _, rfl, rfl, _, rfl, _, rfl, _, _, rfl, rfl, h, c, (i : Int) + 1, rfl, ha6, by omega, by omega, fun d2 H7 d20 d21 ha7 b7 => ⟨by show 2 ≤ sizeLine; decide, fun p1 hp1 => ?_⟩⟩
          refine ⟨_, rfl, _, _, rfl, rfl, _, rfl, by show 2 ≤ sizeLine; decide, fun p2 hp2 => ⟨by show 2 ≤ sizeLine; decide, fun pl hpl => ?_⟩⟩
          have t1 := (same_upd (o := .tup [.int ((i : Int) + 1), .int (i : Int)]) hp2).trans (same_upd (o := .lst [.ref p1, .ref p2]) hpl)
          have x1 := t1 p1 _ upd_same
          have x2 := (same_upd (o := .lst [.ref p1, .ref p2]) hpl) p2 _ upd_same
          have t3 := (same_upd (o := .tup [.int ((i : Int) + 1), .int d2]) hp1).trans t1
          have hA8 := ha7.same t3
          obtain ⟨ysx, hhx⟩ := hA8.lst
          refine ⟨_, rfl, h, c, 2, rfl, hA8, by decide, by decide, fun d3 H8 d30 d31 ha8 b8 => ?_⟩
          have hpl' : pl ≠ h := fun z => by
            obtain ⟨ysy, hhy⟩ := (ha7.same ((same_upd (o := .tup [.int ((i : Int) + 1), .int d2]) hp1).trans (same_upd (o := .tup [.int ((i : Int) + 1), .int (i : Int)]) hp2))).lst
            rw [z, hhy] at hpl
            cases hpl
          have x3 := b8 pl _ hpl' upd_same
          have x4 := b8 _ _ (ne_of x1 hhx (fun z => nomatch z)) x1
          have x5 := b8 _ _ (ne_of x2 hhx (fun z => nomatch z)) x2
          have bAll := ((b56.trans b7).trans (But.of t3)).trans b8
          have pick : ∃ (pp : Addr) (bb : Int), atI [V.ref p1, V.ref p2] d3 = some (.ref pp) ∧ H8 pp = some (.tup [.int ((i : Int) + 1), .int bb]) ∧ 0 ≤ bb ∧ bb < (i : Int) + 1 := by
            rcases (show d3 = 0 ∨ d3 = 1 by omega) with rfl | rfl
            · exact ⟨p1, d2, atI_nat (j := 0) rfl, x4, d20, d21⟩
            · exact ⟨p2, i, atI_nat (j := 1) rfl, x5, by omega, by omega⟩
          obtain ⟨pp, bb, y1, y2, y3, y4⟩ := pick
          refine ⟨pl, _, d3, .ref pp, rfl, rfl, SqL.of x3, y1, pp, _, rfl, SqT.of y2, rfl, _, _, rfl, _, _, rfl, rfl, ?_⟩
          refine ⟨_, rfl, h, c, 2, rfl, ha8, by decide, by decide, fun d4 H9 _ _ ha9 b9 => ⟨rfl, _, rfl, ite2 (fun _ => ?_) (fun _ => ?_)⟩⟩
          · exact ⟨_, rfl, _, rfl, _, _, rfl, rest _ H9 ⟨bb, (i : Int) + 1, _, y3, by omega, by omega, ck', by omega, ha9, bAll.trans b9, rfl⟩⟩
          · exact rest _ H9 ⟨(i : Int) + 1, bb, _, by omega, ck', y3, by omega, by omega, ha9, bAll.trans b9, rfl⟩
      · rintro σ Hs ⟨haS, bS, e1, e2, fs, S0, u8, u9, u10, u11, e3, e4, e5, e6, e7, e8, rfl⟩
        have hfl := e4.len
        obtain ⟨ysS, hhS⟩ := haS.lst
        refine ⟨_, rfl, _, rfl, h, c, F0, fs, rfl, haS, e3, by omega, fun ys p H9 hp h9 hA9 b9 np nc' nH => ?_⟩
        have e9 : StAll K H9 fs S0 := Paired.mapP e4 fun _ _ z => z.keep (b9.keep hhS)
        obtain ⟨S1, q1, q2⟩ := paired_perm hp e9
        have nHp : H p = none := by
          cases e : H p with
          | none => rfl
          | some o => rw [bS _ _ np e] at nH; cases nH
        refine k p ys S1 H9 hA9 (bS.trans b9) h9 np nHp q1 ⟨by omega, n8, ?_, fun st m => (e6 st (q2.mem_iff.mp m)).1, fun st m => (e6 st (q2.mem_iff.mp m)).2⟩ (fun hw => ⟨scOf qs, hpos, fun st m => e7 hw st (q2.mem_iff.mp m)⟩) (fun hw => ?_)
        · rw [q2.length_eq, e5]
          omega
        · obtain ⟨B, G, p1, p2, p3⟩ := e8 hw
          refine ⟨B, G, q2.trans p1, ?_, scOf qs, hpos, p3⟩
          split at p2 <;> omega
end
end K32
end

section
set_option Elab.async false
set_option linter.all false
set_option maxRecDepth 100000
set_option maxHeartbeats 4000000
/-! K32LM: labels that spread along stalls, as plain mathematics. -/
namespace K32
section
open PySem PySem.Spec PyProof.Rows L2
theorem tupOf_in {X : Cx} {K : PySem.W.Frag} (h : X.K = K) : CallR X (.type "tuple") (fun xs H Q => ∃ p ys, xs = [.ref p] ∧ ((SqL K H p ys ∧ ∀ l, H l = none → Q (.ref l) (upd H l (.tup ys))) ∨ (SqT K H p ys ∧ Q (.ref p) H))) := by
  subst h
  exact call_tuple_of
end
def kAt (ks : List Int) (w : Int) : Int := (ks[w.toNat]?).getD 0
theorem kAt_set {ks : List Int} {i v w : Int} (i0 : 0 ≤ i) (i1 : i < ks.length) (w0 : 0 ≤ w) : kAt (ks.set i.toNat v) w = if w = i then v else kAt ks w := by
  unfold kAt
  rw [List.getElem?_set]
  by_cases c : w = i
  · subst c
    rw [if_pos rfl, if_pos rfl, if_pos (by omega)]
    rfl
  · rw [if_neg (by omega), if_neg c]
theorem path_con {S : List Stall} : ∀ {r : Way} {w u : Int}, Path S w r u → Con S w u
  | [], w, u, h => by
    cases h
    exact Con.refl _ _
  | (e, x) :: r, w, u, ⟨e1, st, h1, h2, h3⟩ => (Con.step (stAt_rng h1).2.2 h2).trans (path_con h3)
def Min1 (n : Int) (S : List Stall) (m : Int) : Prop := 0 ≤ m ∧ m < n ∧ ∀ y, Con S m y → m ≤ y
structure Lab (n : Int) (S : List Stall) (ks : List Int) : Prop where
  len : (ks.length : Int) = n
  con : ∀ w, 0 ≤ w → w < n → Con S w (kAt ks w)
def Reach (n : Int) (S : List Stall) (ks : List Int) (t : Nat) : Prop := ∀ m r w, Min1 n S m → Path S m r w → r.length ≤ t → kAt ks w = m
def low (ks : List Int) (st : Stall) : Int := if kAt ks st.other < kAt ks st.one then kAt ks st.other else kAt ks st.one
def turnK (ks : List Int) (st : Stall) : List Int := (ks.set st.one.toNat (low ks st)).set st.other.toNat (low ks st)
variable {n : Int} {S : List Stall} {ks : List Int} {st : Stall}
instance (st : Stall) (w : Int) : Decidable (st.Has w) := inferInstanceAs (Decidable (st.one = w ∨ st.other = w))
theorem turnK_at (h : Lab n S ks) (g : GoodS n st) {w : Int} (w0 : 0 ≤ w) : kAt (turnK ks st) w = if st.Has w then low ks st else kAt ks w := by
  have l := h.len
  have h1 := g.a0; have h2 := g.a1; have h3 := g.b0; have h4 := g.b1
  unfold turnK
  rw [kAt_set h3 (by rw [List.length_set]; omega) w0, kAt_set h1 (by omega) w0]
  by_cases c1 : st.other = w
  · rw [if_pos c1.symm, if_pos (show st.Has w from .inr c1)]
  · rw [if_neg (Ne.symm c1)]
    by_cases c2 : st.one = w
    · rw [if_pos c2.symm, if_pos (show st.Has w from .inl c2)]
    · rw [if_neg (Ne.symm c2), if_neg (fun z : st.Has w => Or.elim z c2 c1)]
theorem low_or (ks : List Int) (st : Stall) : low ks st = kAt ks st.one ∨ low ks st = kAt ks st.other := by
  unfold low
  split
  · exact .inr rfl
  · exact .inl rfl
theorem low_con (h : Lab n S ks) (g : GoodS n st) (m : st ∈ S) {w : Int} (hw : st.Has w) : Con S w (low ks st) := by
  have c := (cl_con S st.one st m).mp (Con.refl _ _)
  have h1 := h.con st.one g.a0 g.a1
  have h2 := h.con st.other g.b0 g.b1
  have hw1 : Con S w st.one := by
    rcases hw with rfl | rfl
    · exact Con.refl _ _
    · exact c.symm
  rcases low_or ks st with e | e <;> rw [e]
  · exact hw1.trans h1
  · exact (hw1.trans c).trans h2
theorem Lab.turn (h : Lab n S ks) (g : GoodS n st) (m : st ∈ S) : Lab n S (turnK ks st) := by
  refine ⟨?_, fun w w0 w1 => ?_⟩
  · unfold turnK
    rw [List.length_set, List.length_set]
    exact h.len
  · rw [turnK_at h g w0]
    split
    · exact low_con h g m ‹_›
    · exact h.con w w0 w1
/-- a least label wins -/
theorem low_min (h : Lab n S ks) (g : GoodS n st) (ms : st ∈ S) {m x : Int} (hm : Min1 n S m) (hx : st.Has x) (hk : kAt ks x = m) : low ks st = m := by
  have hc : Con S m x := by
    have := h.con x (has_in g hx).1 (has_in g hx).2
    rw [hk] at this
    exact this.symm
  have hl := hm.2.2 _ (hc.trans (low_con h g ms hx))
  have : low ks st ≤ kAt ks x := by
    unfold low
    rcases hx with rfl | rfl <;> split <;> omega
  omega
theorem stays (h : Lab n S ks) (g : GoodS n st) (ms : st ∈ S) {m w : Int} (hm : Min1 n S m) (w0 : 0 ≤ w) (hk : kAt ks w = m) : kAt (turnK ks st) w = m := by
  rw [turnK_at h g w0]
  split
  · exact low_min h g ms hm ‹_› hk
  · exact hk
theorem gets (h : Lab n S ks) (g : GoodS n st) (ms : st ∈ S) {m x : Int} (hm : Min1 n S m) (hx : st.Has x) (hk : kAt ks x = m) : kAt (turnK ks st) (st.oth x) = m := by
  have ho := g.oth_has x
  rw [turnK_at h g (has_in g ho).1, if_pos ho]
  exact low_min h g ms hm hx hk
theorem path_in (g : Good n S) {m : Int} (hm : 0 ≤ m ∧ m < n) {r : Way} {w : Int} (p : Path S m r w) : 0 ≤ w ∧ w < n := con_in g hm.1 hm.2 (path_con p)
theorem Reach.start (h : ∀ w, 0 ≤ w → w < n → kAt ks w = w) : Reach n S ks 0 := by
  intro m r w hm p hl
  have e := List.length_eq_zero_iff.mp (Nat.le_zero.mp hl)
  subst e
  cases (show m = w from p)
  exact h m hm.1 hm.2.1
/-- within a turn: what the first q stalls have brought -/
def Within (n : Int) (S : List Stall) (ks : List Int) (t q : Nat) : Prop := ∀ (j : Nat) st, j < q → S[j]? = some st → ∀ m r x, Min1 n S m → Path S m r x → r.length ≤ t → st.Has x → kAt ks (st.oth x) = m
theorem Within.step (h : Lab n S ks) (g : Good n S) {t q : Nat} (hr : Reach n S ks t) (hw : Within n S ks t q) (e : S[q]? = some st) : Reach n S (turnK ks st) t ∧ Within n S (turnK ks st) t (q + 1) := by
  have ms := List.mem_of_getElem? e
  have gs := g st ms
  refine ⟨fun m r w hm p hl => stays h gs ms hm (path_in g ⟨hm.1, hm.2.1⟩ p).1 (hr m r w hm p hl), fun j st' hj e' m r x hm p hl hx => ?_⟩
  rcases Nat.lt_succ_iff_lt_or_eq.mp hj with c | rfl
  · exact stays h gs ms hm (has_in (g st' (List.mem_of_getElem? e')) ((g st' (List.mem_of_getElem? e')).oth_has x)).1 (hw j st' c e' m r x hm p hl hx)
  · rw [e] at e'
    cases e'
    exact gets h gs ms hm hx (hr m r x hm p hl)
theorem snoc_path {r : Way} {t : Nat} (h : r.length ≤ t + 1) (c : ¬ r.length ≤ t) : ∃ r' p, r = r' ++ [p] ∧ r'.length ≤ t := by
  obtain ⟨r', p, e⟩ := snoc_of (l := r) (fun z => by subst z; simp at c)
  refine ⟨r', p, e, ?_⟩
  rw [e, List.length_append] at h
  simp at h
  omega
theorem Within.done {t : Nat} (hr : Reach n S ks t) (hw : Within n S ks t S.length) : Reach n S ks (t + 1) := by
  intro m r w hm p hl
  by_cases c : r.length ≤ t
  · exact hr m r w hm p c
  · obtain ⟨r', ⟨e, x⟩, rfl, hl'⟩ := snoc_path hl c
    obtain ⟨u, p1, p2⟩ := path_append.mp p
    obtain ⟨e1, st, h1, h2, h3⟩ := p2
    cases (show st.oth u = w from h3)
    obtain ⟨z0, z1, _⟩ := stAt_rng h1
    obtain ⟨j, rfl⟩ := Int.eq_ofNat_of_zero_le z0
    rw [stAt_nat] at h1
    exact hw j st (by omega) h1 m r' u hm p1 hl' h2
theorem min_ex (g : Good n S) {w : Int} (w0 : 0 ≤ w) (w1 : w < n) : ∃ m, Con S w m ∧ Min1 n S m := by
  have dec : ∀ x, Decidable (Con S w x) := fun x => Classical.propDecidable _
  have ne : (((List.range n.toNat).map fun i : Nat => (i : Int)).filter fun x => decide (Con S w x)) ≠ [] := by
    intro z
    have : w ∈ (((List.range n.toNat).map fun i : Nat => (i : Int)).filter fun x => decide (Con S w x)) :=
      List.mem_filter.mpr ⟨List.mem_map.mpr ⟨w.toNat, List.mem_range.mpr (by omega), by omega⟩, decide_eq_true (Con.refl _ _)⟩
    rw [z] at this
    cases this
  obtain ⟨m, hm, hl⟩ := least_of ne
  have hc := of_decide_eq_true (List.mem_filter.mp hm).2
  have hin := con_in g w0 w1 hc
  refine ⟨m, hc, hin.1, hin.2, fun y hy => hl y ?_⟩
  have hy' := hc.trans hy
  have hin' := con_in g w0 w1 hy'
  exact List.mem_filter.mpr ⟨List.mem_map.mpr ⟨y.toNat, List.mem_range.mpr (by omega), by omega⟩, decide_eq_true hy'⟩
/-- a short way from one to the other -/
theorem short_path (g : Good n S) {v u : Int} (v0 : 0 ≤ v) (v1 : v < n) (h : Con S v u) : ∃ r, Path S v r u ∧ r.length ≤ n.toNat := by
  obtain ⟨r, p, nd, _⟩ := con_path g g (L := fun _ => True) (fun st m => by
    obtain ⟨i, hi⟩ := List.getElem?_of_mem m
    exact ⟨(i : Int), True.intro, by rw [stAt_nat]; exact hi⟩) h
  have := nodup_len (n := n) nd fun x hx => by
    rcases List.mem_append.mp hx with hx | hx
    · obtain ⟨q, hq, rfl⟩ := List.mem_map.mp hx
      obtain ⟨st, hst, hh⟩ := path_mem p hq
      exact has_in (g st (stAt_rng hst).2.2) hh
    · rw [List.mem_singleton.mp hx]
      exact con_in g v0 v1 h
  rw [List.length_append, List.length_map] at this
  exact ⟨r, p, by omega⟩
theorem Reach.min (g : Good n S) (hr : Reach n S ks n.toNat) {w m : Int} (w0 : 0 ≤ w) (w1 : w < n) (hc : Con S w m) (hm : Min1 n S m) : kAt ks w = m := by
  obtain ⟨r, p, l⟩ := short_path g hm.1 hm.2.1 hc.symm
  exact hr m r w hm p l
/-- what the labels tell at the end -/
theorem labels (g : Good n S) (h : Lab n S ks) (hr : Reach n S ks n.toNat) {r x : Int} (r0 : 0 ≤ r) (r1 : r < n) (e : kAt ks r = r) (x0 : 0 ≤ x) (x1 : x < n) : kAt ks x = r ↔ Con S r x := by
  constructor
  · intro e2
    have := h.con x x0 x1
    rw [e2] at this
    exact this.symm
  · intro c
    obtain ⟨m, c1, hm⟩ := min_ex g r0 r1
    have e1 := hr.min g r0 r1 c1 hm
    rw [e] at e1
    subst e1
    exact hr.min g x0 x1 c.symm hm
theorem label_root (g : Good n S) (h : Lab n S ks) (hr : Reach n S ks n.toNat) {x : Int} (x0 : 0 ≤ x) (x1 : x < n) : 0 ≤ kAt ks x ∧ kAt ks x < n ∧ kAt ks (kAt ks x) = kAt ks x := by
  obtain ⟨m, c, hm⟩ := min_ex g x0 x1
  have e := hr.min g x0 x1 c hm
  rw [e]
  exact ⟨hm.1, hm.2.1, hr.min g hm.1 hm.2.1 (Con.refl _ _) hm⟩
end K32
end

section
set_option Elab.async false
set_option linter.all false
set_option maxRecDepth 100000
set_option maxHeartbeats 4000000
/-! K32LD: the law's pieces. -/
namespace K32
open PySem PySem.Spec PyProof.Rows L2
theorem atI_k {ks : List Int} {i : Int} (i0 : 0 ≤ i) (i1 : i < ks.length) : atI (ks.map V.int) i = some (.int (kAt ks i)) := by
  obtain ⟨j, rfl⟩ := Int.eq_ofNat_of_zero_le i0
  have hj : j < ks.length := by omega
  refine atI_nat ?_
  unfold kAt
  rw [Int.toNat_natCast, List.getElem?_map, List.getElem?_eq_getElem hj]
  rfl
theorem ixN_k {n : Nat} {i : Int} (i0 : 0 ≤ i) (i1 : i < n) : ixN n i = some i.toNat := by
  unfold ixN
  rw [if_pos i0, if_pos i1]
section
variable {P : Program} {w : World} {K : PySem.W.Frag} {mg : Str → Option Value} {base : Heap} {C Cw : Addr}

abbrev st__law_pieces : Stmt := topS 58
theorem sc__law_pieces : FnScope ["_law_stalls_here", "_law_wares", "_law_kind", "_law_turn", "_law_stall_here", "_law_low", "_law_one", "_law_ware"] ["_law_stalls_here", "_law_wares"] (defScope st__law_pieces) := ⟨rfl, rfl, rfl, by decide +kernel, rfl, by decide +kernel, by decide +kernel⟩
def spLPieces (K : PySem.W.Frag) : Sp := fun vs H Q _ => ∃ (l : Addr) (xs : List V) (n : Int) (S : List Stall), vs = [.ref l, .int n] ∧ H l = some (.lst xs) ∧ StAll K H xs S ∧ GoodW n S ∧
  ∀ (Ps : List (List Int)) ts p H', Same H H' → H p = none → H' p = some (.lst (ts.map V.ref)) → TupsAt H' ts Ps → PiecesOf n S Ps → Q (.ref p) H'
theorem ok_law_pieces (D : Def K mg "_law_pieces" st__law_pieces ["_law_stalls_here", "_law_wares"]) (T : Txt K mg C Cw) : Cal P w K mg base "_law_pieces" 1 ["_law_stalls_here", "_law_wares"] (spLPieces K) := by
  refine D.ok sc__law_pieces (fun vs H Q E h => ?_) (fun f cdv A outer s H vs Q E hr h => ?_)
  · obtain ⟨l, xs, n, S, rfl, _⟩ := h
    rfl
  · obtain ⟨l, xs, n, S, rfl, hl, hs, g, k⟩ := h
    refine ⟨_, (pss_cons (ps_set (i := 2) sc__law_pieces.nd rfl (Or.inr rfl) (pe_listRg rfl (by rfl) T.z_list (prg_1 (by rfl) T.z_range (pv 1))))
        (pss_cons (ps_for PassesOwn.never rfl (pi_range1 (by rfl) T.z_range (pa_cons (pv 1) pa_nil)) (pg_name (i := 3) sc__law_pieces.nd rfl (Or.inl rfl)) (pss_one (ps_for PassesOwn.never rfl (pi_list (pv 0)) (pg_name (i := 4) sc__law_pieces.nd rfl (Or.inl rfl)) (pss_cons (ps_set (i := 5) sc__law_pieces.nd rfl (Or.inl rfl) (pe_callB (call_min2 rfl) (by rfl) T.z_min (by decide +kernel) (pa_cons (pe_ix ix_list (pv 2) (pe_ix ix_tup (pv 4) pe_int (fun _ _ => rfl)) (fun _ _ => rfl)) (pa_cons (pe_ix ix_list (pv 2) (pe_ix ix_tup (pv 4) pe_int (fun _ _ => rfl)) (fun _ _ => rfl)) pa_nil))))
        (pss_cons (ps_asg (pv 5) (pg_sub (pv 2) (pe_ix ix_tup (pv 4) pe_int (fun _ _ => rfl)) set_list))
        (pss_one (ps_asg (pv 5) (pg_sub (pv 2) (pe_ix ix_tup (pv 4) pe_int (fun _ _ => rfl)) set_list))))))))
        (pss_one (ps_ret (pe_lc (own := [("_law_one", 6)]) (by rfl) sc__law_pieces.nd (pi_range1 (by rfl) T.z_range (pa_cons (pv 1) pa_nil)) (blkOk_by (own := [("_law_one", 6)]) (by kernel_rfl)) (fun _ _ _ _ _ => (pg_name (i := 6) sc__law_pieces.nd rfl (Or.inr rfl))) (fun _ _ _ _ _ => pts_one (pt_cmpR op_eq (pe_ix (ixL_in (K := K) rfl) (pv 2) (pv 6) (fun _ _ => rfl)) (pv 6) (nomark _))) (fun _ _ _ _ _ => (pe_callTy (tupOf_in (K := K) rfl) (by rfl) T.z_tuple (by decide +kernel) (pa_cons (pe_lc (own := [("_law_ware", 7)]) (by rfl) sc__law_pieces.nd (pi_range1 (by rfl) T.z_range (pa_cons (pv 1) pa_nil)) (blkOk_by (own := [("_law_ware", 7)]) (by kernel_rfl)) (fun _ _ _ _ _ => (pg_name (i := 7) sc__law_pieces.nd rfl (Or.inl rfl))) (fun _ _ _ _ _ => pts_one (pt_cmpR op_eq (pe_ix (ixL_in (K := K) rfl) (pv 2) (pv 7) (fun _ _ => rfl)) (pv 6) (nomark _))) (fun _ _ _ _ _ => (pv 7))) pa_nil)))))))), ?_⟩
    have g1 := g.n1
    have g8 := g.n8
    have glen := g.len
    refine ⟨_, rfl, n, rfl, RgOk.of_le (by omega) (by omega) (by omega) (by omega), fun Kd hK => ?_⟩
    have ek : rgV 0 n = ((List.range (n - 0).toNat).map fun i : Nat => (0 : Int) + i).map V.int := by
      unfold rgV
      rw [List.map_map]
      rfl
    rw [ek]
    have k0len : ((List.range (n - 0).toNat).map fun i : Nat => (0 : Int) + i).length = n.toNat := by simp
    have k0at : ∀ w, 0 ≤ w → w < n → kAt ((List.range (n - 0).toNat).map fun i : Nat => (0 : Int) + i) w = w := by
      intro w w0 w1
      unfold kAt
      rw [List.getElem?_map, List.getElem?_range (by omega)]
      show (0 : Int) + (w.toNat : Nat) = w
      omega
    generalize ((List.range (n - 0).toNat).map fun i : Nat => (0 : Int) + i) = k0 at *
    have sK := same_upd (o := .lst (k0.map V.int)) hK
    have lab0 : Lab n S k0 := ⟨by omega, fun w w0 w1 => by rw [k0at w w0 w1]; exact Con.refl _ _⟩
    refine ⟨_, rfl, n, rfl, by omega, by omega, ?_⟩
    refine for_range (fun t σ H' => Same H H' ∧ ∃ (ks : List Int) (u3 u4 u5 : Option V), H' Kd = some (.lst (ks.map V.int)) ∧ Lab n S ks ∧ Reach n S ks t ∧ σ = [some (.ref l), some (.int n), some (.ref Kd), u3, u4, u5, none, none])
      ⟨sK, k0, _, _, _, upd_same, lab0, Reach.start k0at, rfl⟩ ?_ ?_
    · rintro t σ H1 ht ⟨s1, ks, u3, u4, u5, h1, lab, rc, rfl⟩
      rw [Int.zero_add]
      refine ⟨_, rfl, l, rfl, ⟨_, SqL.of (s1 _ _ hl)⟩, ?_⟩
      refine for_list (K := K) (xs := xs) (fun q σ H' => Same H H' ∧ ∃ (ks : List Int) (u4 u5 : Option V), H' Kd = some (.lst (ks.map V.int)) ∧ Lab n S ks ∧ Reach n S ks t ∧ Within n S ks t q ∧ σ = [some (.ref l), some (.int n), some (.ref Kd), some (.int t), u4, u5, none, none])
        ⟨s1, ks, _, _, h1, lab, rc, fun j st hj => absurd hj (Nat.not_lt_zero _), rfl⟩ (fun q σ H' _ h => SqL.of (h.1 _ _ hl)) ?_ ?_
      · rintro q x σ H2 hx ⟨s2, ks, u4, u5, h2, lab, rc, wi, rfl⟩
        obtain ⟨st, es, hst⟩ := hs.get hx
        have gs := g.good st (List.mem_of_getElem? es)
        have ln := lab.len
        obtain ⟨sb, z1, z2, z3, rfl, hsb, _, _, _⟩ := hst.same s2
        have o0 := gs.a0; have o1 := gs.a1; have o2 := gs.b0; have o3 := gs.b1
        refine ⟨_, rfl, _, rfl, sb, _, _, _, rfl, rfl, hsb, atI_nat (j := 0) rfl, Kd, _, st.one, _, rfl, rfl, SqL.of h2, atI_k o0 (by omega), ?_⟩
        refine ⟨_, rfl, _, rfl, sb, _, _, _, rfl, rfl, hsb, atI_nat (j := 1) rfl, Kd, _, st.other, _, rfl, rfl, SqL.of h2, atI_k o2 (by omega), kAt ks st.one, kAt ks st.other, rfl, ?_⟩
        refine ⟨_, rfl, _, rfl, _, rfl, sb, _, _, _, rfl, rfl, hsb, atI_nat (j := 0) rfl, Kd, _, st.one, st.one.toNat, rfl, rfl, h2, ixN_k o0 (by rw [List.length_map]; omega), ?_⟩
        have hsb2 := sqT_lst (K := K) (o2 := .lst ((ks.map V.int).set st.one.toNat (.int (low ks st)))) h2 _ _ hsb
        have h3 : upd H2 Kd (.lst ((ks.map V.int).set st.one.toNat (.int (low ks st)))) Kd = some (.lst ((ks.set st.one.toNat (low ks st)).map V.int)) := by
          rw [upd_same, List.map_set]
        have s3 : Same H (upd H2 Kd (.lst ((ks.map V.int).set st.one.toNat (.int (low ks st))))) := Same.mut s2 hK
        refine ⟨_, rfl, _, rfl, _, rfl, sb, _, _, _, rfl, rfl, hsb2, atI_nat (j := 1) rfl, Kd, _, st.other, st.other.toNat, rfl, rfl, h3, ixN_k o2 (by rw [List.length_map, List.length_set]; omega), ?_⟩
        obtain ⟨r1, r2⟩ := Within.step lab g.good rc wi es
        refine ⟨Same.mut s3 hK, turnK ks st, _, _, ?_, lab.turn gs (List.mem_of_getElem? es), r1, r2, rfl⟩
        rw [upd_same]
        unfold turnK
        rw [List.map_set (l := ks.set st.one.toNat (low ks st))]
        rfl
      · rintro σ H2 ⟨s2, ks, u4, u5, h2, lab, rc, wi, rfl⟩
        rw [hs.len] at wi
        exact ⟨s2, ks, _, _, _, h2, lab, wi.done rc, rfl⟩
    · rintro σ H1 ⟨s1, ks, u3, u4, u5, h1, lab, rc, rfl⟩
      have ln := lab.len
      refine ⟨_, rfl, n, rfl, by omega, by omega, fun D hD => ?_⟩
      refine lc_range (Pv := fun i H' => Same H1 H' ∧ ∃ (ts : List Addr) (Ps : List (List Int)), H' D = some (.lst (ts.map V.ref)) ∧ TupsAt H' ts Ps ∧ (∀ p ∈ Ps, ∃ r, 0 ≤ r ∧ r < (i : Int) ∧ kAt ks r = r ∧ ∀ x, x ∈ p ↔ (0 ≤ x ∧ x < n ∧ kAt ks x = r)) ∧ Ps.flatten.Nodup ∧
        (∀ r x, 0 ≤ r → r < (i : Int) → kAt ks r = r → 0 ≤ x → x < n → kAt ks x = r → x ∈ Ps.flatten) ∧ ts.length ≤ i) ⟨same_upd hD, [], [], upd_same, .nil, by simp, by simp, fun r x r0 r1 => by omega, by simp⟩ ?_ ?_
      · rintro i H2 hi ⟨s2, ts, Ps, d1, d2, d3, d4, d5, d6⟩
        rw [Int.zero_add]
        have h2 := s2 _ _ h1
        refine ⟨rfl, _, rfl, _, rfl, Kd, _, (i : Int), _, rfl, rfl, SqL.of h2, atI_k (by omega) (by omega), _, rfl, rfl, _, rfl, ?_⟩
        by_cases c : kAt ks i = i
        case neg =>
          refine iteN (decide_eq_false fun z => c (V.int.inj z)) ⟨s2, ts, Ps, d1, d2, fun p hp => ?_, d4, fun r x r0 r1 hr x0 x1 hx => ?_, by omega⟩
          · obtain ⟨r, r0, r1, r2⟩ := d3 p hp
            exact ⟨r, r0, by omega, r2⟩
          · rcases Int.lt_or_eq_of_le (show r ≤ i by omega) with z | z
            · exact d5 r x r0 z hr x0 x1 hx
            · rw [z] at hr
              exact absurd hr c
        refine iteY (decide_eq_true (by rw [c])) ⟨_, rfl, n, rfl, by omega, by omega, fun D2 hD2 => ?_⟩
        refine lc_range (Pv := fun j H' => Same H2 H' ∧ ∃ ws : List Int, H' D2 = some (.lst (ws.map V.int)) ∧ (∀ x, x ∈ ws ↔ (0 ≤ x ∧ x < (j : Int) ∧ kAt ks x = i)) ∧ ws.Nodup ∧ ws.length ≤ j) ⟨same_upd hD2, [], upd_same, fun x => by simp; omega, .nil, by simp⟩ ?_ ?_
        · rintro j H3 hj ⟨s3, ws, e1, e2, e3, e4⟩
          rw [Int.zero_add]
          have h3 := s3 _ _ h2
          refine ⟨rfl, _, rfl, _, rfl, Kd, _, (j : Int), _, rfl, rfl, SqL.of h3, atI_k (by omega) (by omega), _, rfl, rfl, _, rfl, ?_⟩
          by_cases c2 : kAt ks j = i
          case neg =>
            refine iteN (decide_eq_false fun z => c2 (V.int.inj z)) ⟨s3, ws, e1, fun x => ?_, e3, by omega⟩
            rw [e2]
            constructor
            · rintro ⟨a, b, d⟩
              exact ⟨a, by omega, d⟩
            · rintro ⟨a, b, d⟩
              rcases Int.lt_or_eq_of_le (show x ≤ j by omega) with z | z
              · exact ⟨a, z, d⟩
              · rw [z] at d
                exact absurd d c2
          refine iteY (decide_eq_true (by rw [c2])) ⟨_, rfl, _, e1, by rw [List.length_map]; exact small1000 (by omega), Same.mut s3 hD2, ws ++ [(j : Int)], ?_, fun x => ?_, nodup_snoc e3 (fun z => by have := (e2 _).mp z; omega), by simp; omega⟩
          · rw [upd_same, List.map_append]
            rfl
          · rw [List.mem_append, e2, List.mem_singleton]
            constructor
            · rintro (⟨a, b, d⟩ | rfl)
              · exact ⟨a, by omega, d⟩
              · exact ⟨by omega, by omega, c2⟩
            · rintro ⟨a, b, d⟩
              rcases Int.lt_or_eq_of_le (show x ≤ j by omega) with z | z
              · exact .inl ⟨a, z, d⟩
              · exact .inr z
        · rintro H3 ⟨s3, ws, e1, e2, e3, e4⟩
          refine ⟨D2, _, rfl, .inl ⟨SqL.of e1, fun tt htt => ?_⟩⟩
          have s4 := s3.trans (same_upd (o := .tup (ws.map V.int)) htt)
          have d7 := s4 _ _ d1
          have fk : ∀ b zs, upd H3 tt (.tup (ws.map V.int)) b = some (.tup zs) → upd (upd H3 tt (.tup (ws.map V.int))) D (.lst (ts.map V.ref ++ [.ref tt])) b = some (.tup zs) := fun b zs e => by
            rw [upd_ne (ne_of e d7 (fun z => nomatch z))]
            exact e
          have hn : (n.toNat : Int) = n := by omega
          rw [hn] at e2
          refine ⟨_, d7, by rw [List.length_map]; exact small1000 (by omega), Same.mut (s2.trans s4) hD, ts ++ [tt], Ps ++ [ws], ?_, ?_, fun p hp => ?_, ?_, fun r x r0 r1 hr x0 x1 hx => ?_, by simp; omega⟩
          · rw [upd_same, List.map_append]
            rfl
          · exact TupsAt.snoc (Paired.mapP d2 fun _ _ q => fk _ _ (s4 _ _ q)) (fk _ _ upd_same)
          · rcases List.mem_append.mp hp with hp | hp
            · obtain ⟨r, r0, r1, r2⟩ := d3 p hp
              exact ⟨r, r0, by omega, r2⟩
            · rw [List.mem_singleton.mp hp]
              exact ⟨i, by omega, by omega, c, e2⟩
          · rw [show (Ps ++ [ws]).flatten = Ps.flatten ++ ws from by simp, List.nodup_append]
            refine ⟨d4, e3, ?_⟩
            rintro x hx y hy rfl
            obtain ⟨p, hp, hxp⟩ := List.mem_flatten.mp hx
            obtain ⟨r, r0, r1, r2, r3⟩ := d3 p hp
            have h1' := ((r3 x).mp hxp).2.2
            have h2' := ((e2 x).mp hy).2.2
            omega
          · rw [show (Ps ++ [ws]).flatten = Ps.flatten ++ ws from by simp, List.mem_append]
            rcases Int.lt_or_eq_of_le (show r ≤ i by omega) with z | z
            · exact .inl (d5 r x r0 z hr x0 x1 hx)
            · exact .inr ((e2 x).mpr ⟨x0, x1, by rw [hx, z]⟩)
      · rintro H2 ⟨s2, ts, Ps, d1, d2, d3, d4, d5, d6⟩
        have hn : (n.toNat : Int) = n := by omega
        rw [hn] at d3 d5
        refine k Ps ts D H2 (s1.trans s2) (s1.free hD) d1 d2 ⟨fun p hp => ?_, d4, fun x x0 x1 => ?_⟩
        · obtain ⟨r, r0, r1, r2, r3⟩ := d3 p hp
          refine ⟨r, r0, r1, fun x => (r3 x).trans ⟨fun h => (labels g.good lab rc r0 r1 r2 h.1 h.2.1).mp h.2.2, fun h => ?_⟩⟩
          have hin := con_in g.good r0 r1 h
          exact ⟨hin.1, hin.2, (labels g.good lab rc r0 r1 r2 hin.1 hin.2).mpr h⟩
        · obtain ⟨q0, q1, q2⟩ := label_root g.good lab rc x0 x1
          exact d5 _ x q0 q1 q2 x0 x1 rfl
end
end K32
end

section
set_option Elab.async false
set_option linter.all false
set_option maxRecDepth 100000
set_option maxHeartbeats 4000000
/-! K32LE: the law's own fit. -/
namespace K32
open PySem PySem.Spec PyProof.Rows L2
/-! ### the row of scales -/
theorem atI_set {vs : List V} {i w : Int} {v : V} (i0 : 0 ≤ i) (i1 : i < vs.length) (w0 : 0 ≤ w) (w1 : w < vs.length) : atI (vs.set i.toNat v) w = if w = i then some v else atI vs w := by
  obtain ⟨j, rfl⟩ := Int.eq_ofNat_of_zero_le w0
  have hj : j < vs.length := by omega
  have e1 : atI vs (j : Int) = vs[j]? := by
    rw [atI_nat (List.getElem?_eq_getElem hj), List.getElem?_eq_getElem hj]
  have e2 : atI (vs.set i.toNat v) (j : Int) = (vs.set i.toNat v)[j]? := by
    have hj' : j < (vs.set i.toNat v).length := by rw [List.length_set]; exact hj
    rw [atI_nat (List.getElem?_eq_getElem hj'), List.getElem?_eq_getElem hj']
  rw [e1, e2, List.getElem?_set]
  by_cases c : (j : Int) = i
  · rw [if_pos c, if_pos (by omega), if_pos (by omega)]
  · rw [if_neg c, if_neg (by omega)]
def FillL (K : PySem.W.Frag) (H : Hp) (F0 : Addr) (n : Int) (fs : List Int) (f : Int → Rat) : Prop := ∃ vs, H F0 = some (.lst vs) ∧ (vs.length : Int) = n ∧ ∀ w, 0 ≤ w → w < n → ∃ v, atI vs w = some v ∧ ((w ∈ fs ∧ FrA K H v (f w)) ∨ (w ∉ fs ∧ v = .non))
theorem FillL.same {K : PySem.W.Frag} {H H' : Hp} {F0 : Addr} {n : Int} {fs : List Int} {f : Int → Rat} (h : FillL K H F0 n fs f) (e : Same H H') : FillL K H' F0 n fs f := by
  obtain ⟨vs, h1, h2, h3⟩ := h
  refine ⟨vs, e _ _ h1, h2, fun w w0 w1 => ?_⟩
  obtain ⟨v, g1, g2⟩ := h3 w w0 w1
  exact ⟨v, g1, g2.imp (fun z => ⟨z.1, z.2.same e⟩) id⟩
theorem FillL.put {K : PySem.W.Frag} {H : Hp} {F0 : Addr} {n : Int} {fs : List Int} {f : Int → Rat} (h : FillL K H F0 n fs f) {y : Int} (y0 : 0 ≤ y) (y1 : y < n) (hy : y ∉ fs) {v : V} {q : Rat} (hv : FrA K H v q) :
    ∃ vs, H F0 = some (.lst vs) ∧ ixN vs.length y = some y.toNat ∧ FillL K (upd H F0 (.lst (vs.set y.toNat v))) F0 n (fs ++ [y]) (putF1 f y q) := by
  obtain ⟨vs, h1, h2, h3⟩ := h
  have hk := sqT_lst (K := K) (o2 := .lst (vs.set y.toNat v)) h1
  refine ⟨vs, h1, ixN_k y0 (by omega), vs.set y.toNat v, upd_same, by rw [List.length_set]; exact h2, fun w w0 w1 => ?_⟩
  rw [atI_set y0 (by omega) w0 (by omega)]
  unfold putF1
  by_cases c : w = y
  · subst c
    rw [if_pos rfl, if_pos rfl]
    exact ⟨v, rfl, .inl ⟨by simp, hv.keep hk⟩⟩
  · rw [if_neg c, if_neg c]
    obtain ⟨u, g1, g2⟩ := h3 w w0 w1
    refine ⟨u, g1, g2.imp (fun z => ⟨List.mem_append_left _ z.1, z.2.keep hk⟩) fun z => ⟨fun m => ?_, z.2⟩⟩
    rcases List.mem_append.mp m with m | m
    · exact z.1 m
    · exact c (List.mem_singleton.mp m)
theorem FrA.ne_non {K : PySem.W.Frag} {H : Hp} {v : V} {q : Rat} (h : FrA K H v q) : ¬ v = .non := by
  obtain ⟨a, rfl, _⟩ := h
  exact fun z => nomatch z
theorem BdS.hold' {s : Stall} (b : BdS s) (w : Int) : Bd 12 (s.hold w) := b.hold w
/-- one of the two lines of a turn -/
theorem fill_if {K : PySem.W.Frag} {H : Hp} {σ : L2.St} {D : Ends} {F0 : Addr} {n : Int} {S : List Stall} {fs : List Int} {f : Int → Rat} {st : Stall} {x : Int} {ia ib ih : Nat} {hv rv : V} (g : GoodW n S) (m : st ∈ S) (hx : st.Has x)
    (s2 : σ[2]? = some (some (.ref F0))) (sa : σ[ia]? = some (some (.int x))) (sb : σ[ib]? = some (some (.int (st.oth x)))) (sh : σ[ih]? = some (some hv)) (sr : σ[9]? = some (some rv)) (fh : FrA K H hv (st.hold x)) (fr : FrA K H rv st.root)
    (hf : FillL K H F0 n fs f) (hm : SwM n S fs f) (k : ∀ H' fs' f', But F0 H H' → FillL K H' F0 n fs' f' → SwM n S fs' f' → (∀ y ∈ fs, y ∈ fs') → (x ∈ fs → st.oth x ∈ fs') → D.nx σ H') :
    tIfS (tAnd (tTest (tOp (fun x y H Q => y = V.non ∧ Q (V.bl !decide (x = V.non)) H) (tOp (rIxL K) (tVar 2) (tVar ia)) (tC V.non))) (tTest (tOp (fun x y H Q => y = V.non ∧ Q (V.bl (decide (x = V.non))) H) (tOp (rIxL K) (tVar 2) (tVar ib)) (tC V.non))))
      (tAsg (tCall (spLOver K) [] E0 (tCons (tCall (spTimes K) [] E0 (tCons (tOp (rIxL K) (tVar 2) (tVar ia)) (tCons (tVar ih) tNil))) (tCons (tVar 9) tNil))) (gSub (tVar 2) (tVar ib) rSetL)) tNext D σ H := by
  have gs := g.good st m
  have bs := g.bd st m
  have xin := has_in gs hx
  have yin := has_in gs (gs.oth_has x)
  obtain ⟨vs, h1, h2, h3⟩ := id hf
  obtain ⟨va, a1, a2⟩ := h3 x xin.1 xin.2
  obtain ⟨vb, b1, b2⟩ := h3 (st.oth x) yin.1 yin.2
  refine ⟨_, s2, _, sa, F0, vs, x, va, rfl, rfl, SqL.of h1, a1, rfl, _, rfl, ?_⟩
  rcases a2 with ⟨ain, af⟩ | ⟨aout, rfl⟩
  · refine iteY (by rw [decide_eq_false af.ne_non]; rfl) ⟨_, s2, _, sb, F0, vs, st.oth x, vb, rfl, rfl, SqL.of h1, b1, rfl, _, rfl, ?_⟩
    rcases b2 with ⟨bin, bf⟩ | ⟨bout, rfl⟩
    · exact iteN (decide_eq_false bf.ne_non) (k H fs f But.refl hf hm (fun y hy => hy) fun _ => bin)
    · have tm := hm.step g.good m bs ain hx bout
      have hfl := nodup_len hm.nd hm.inn
      have n8 := g.n8
      refine iteY (decide_eq_true rfl) ⟨_, s2, _, sa, F0, vs, x, va, rfl, rfl, SqL.of h1, a1, _, sh, va, hv, f x, st.hold x, 1 + 24 * fs.length, 12, rfl, af, fh, hm.bd x ain, bs.hold x, by omega, by decide, by omega, fun v1 H1 s1 f1 => ?_⟩
      refine ⟨_, sr, v1, rv, f x * st.hold x, st.root, 1 + 24 * fs.length + 12, 12, rfl, f1, fr.same s1, gs.r, (hm.bd x ain).mul (bs.hold x), bs.r, by omega, by decide, by omega, fun v2 H2 s12 f2 => ?_⟩
      obtain ⟨vs2, q1, q2, q3⟩ := (hf.same (s1.trans s12)).put yin.1 yin.2 bout f2
      refine ⟨_, s2, _, sb, F0, vs2, st.oth x, _, rfl, rfl, q1, q2, k _ _ _ ?_ q3 tm (fun y hy => List.mem_append_left _ hy) fun _ => by simp⟩
      exact (But.of (s1.trans s12)).upd
  · exact iteN (by simp) (k H fs f But.refl hf hm (fun y hy => hy) fun z => absurd z aout)
/-- the filled wares -/
def Fed (S : List Stall) (rs fs : List Int) (t : Nat) : Prop := ∀ r ∈ rs, ∀ p w, Path S r p w → p.length ≤ t → w ∈ fs
def FedW (S : List Stall) (rs fs : List Int) (t q : Nat) : Prop := ∀ (j : Nat) st, j < q → S[j]? = some st → ∀ r ∈ rs, ∀ p x, Path S r p x → p.length ≤ t → st.Has x → st.oth x ∈ fs
theorem FedW.done {S : List Stall} {rs fs : List Int} {t : Nat} (h : Fed S rs fs t) (w : FedW S rs fs t S.length) : Fed S rs fs (t + 1) := by
  intro r hr p u hp hl
  by_cases c : p.length ≤ t
  · exact h r hr p u hp c
  · obtain ⟨p', ⟨e, x⟩, rfl, hl'⟩ := snoc_path hl c
    obtain ⟨v, p1, p2⟩ := path_append.mp hp
    obtain ⟨e1, st, h1, h2, h3⟩ := p2
    cases (show st.oth v = u from h3)
    obtain ⟨z0, z1, _⟩ := stAt_rng h1
    obtain ⟨j, rfl⟩ := Int.eq_ofNat_of_zero_le z0
    rw [stAt_nat] at h1
    exact w j st (by omega) h1 r hr p' v p1 hl' h2
def rootsOf (Ps : List (List Int)) : List Int := Ps.filterMap List.head?
theorem rootsOf_snoc (Ps : List (List Int)) (r : Int) (p : List Int) : rootsOf (Ps ++ [r :: p]) = rootsOf Ps ++ [r] := by simp [rootsOf]
theorem rootsOf_in {Ps : List (List Int)} {x : Int} (h : x ∈ rootsOf Ps) : ∃ p ∈ Ps, x ∈ p := by
  obtain ⟨p, hp, e⟩ := List.mem_filterMap.mp h
  exact ⟨p, hp, List.mem_of_head? e⟩
theorem frac_eq {p q : Rat} : [p.num, (p.den : Int)] = [q.num, (q.den : Int)] ↔ p = q := by
  constructor
  · intro h
    have h1 := (List.cons.inj h).1
    have h2 := (List.cons.inj (List.cons.inj h).2).1
    exact Rat.ext h1 (by omega)
  · intro h
    rw [h]
section
variable {P : Program} {w : World} {K : PySem.W.Frag} {mg : Str → Option Value} {base : Heap} {C Cw : Addr}

abbrev st__law_fit : Stmt := topS 59
theorem sc__law_fit : FnScope ["_law_stalls_here", "_law_wares", "_law_found", "_law_piece", "_law_turn", "_law_one", "_law_other", "_law_here", "_law_beside", "_law_root"] ["_law_stalls_here", "_law_wares"] (defScope st__law_fit) := ⟨rfl, rfl, rfl, by decide +kernel, rfl, by decide +kernel, by decide +kernel⟩
def spLFit (K : PySem.W.Frag) : Sp := fun vs H Q _ => ∃ (l : Addr) (xs : List V) (n : Int) (S : List Stall), vs = [.ref l, .int n] ∧ H l = some (.lst xs) ∧ StAll K H xs S ∧ GoodW n S ∧
  ∀ u H', Same H H' → ((u = .non ∧ ¬ Fits S) ∨ ∃ t, u = .ref t ∧ Fits S) → Q u H'
theorem ok_law_fit (D : Def K mg "_law_fit" st__law_fit ["_law_stalls_here", "_law_wares"]) (T : Txt K mg C Cw) (c__law_pieces : Cal P w K mg base "_law_pieces" 1 ["_law_stalls_here", "_law_wares"] (spLPieces K))
    (c__law_times : Cal P w K mg base "_law_times" 3 ["_law_one", "_law_other"] (spTimes K)) (c__law_over : Cal P w K mg base "_law_over" 3 ["_law_one", "_law_other"] (spLOver K)) : Cal P w K mg base "_law_fit" 4 ["_law_stalls_here", "_law_wares"] (spLFit K) := by
  refine D.ok sc__law_fit (fun vs H Q E h => ?_) (fun f cdv A outer s H vs Q E hr h => ?_)
  · obtain ⟨l, xs, n, S, rfl, _⟩ := h
    rfl
  · obtain ⟨l, xs, n, S, rfl, hl, hs, g, k⟩ := h
    refine ⟨_, (pss_cons (ps_set (i := 2) sc__law_fit.nd rfl (Or.inl rfl) (pe_op op_rep (pe_lst (pa_cons pe_non pa_nil)) (pv 1)))
        (pss_cons (ps_for PassesOwn.never rfl (pi_list (pe_cal c__law_pieces (hr.mono (by decide)) (by rfl) (pa_cons (pv 0) (pa_cons (pv 1) pa_nil)))) (pg_name (i := 3) sc__law_fit.nd rfl (Or.inl rfl)) (pss_one (ps_asg (pe_tup (pa_cons pe_int (pa_cons pe_int pa_nil))) (pg_sub (pv 2) (pe_ix ix_tup (pv 3) pe_int (fun _ _ => rfl)) set_list))))
        (pss_cons (ps_for PassesOwn.never rfl (pi_range1 (by rfl) T.z_range (pa_cons (pv 1) pa_nil)) (pg_name (i := 4) sc__law_fit.nd rfl (Or.inl rfl)) (pss_one (ps_for PassesOwn.never rfl (pi_list (pv 0)) (pg_tup (n := 5) rfl (pgs_cons (pg_name (i := 5) sc__law_fit.nd rfl (Or.inl rfl)) (pgs_cons (pg_name (i := 6) sc__law_fit.nd rfl (Or.inl rfl)) (pgs_cons (pg_name (i := 7) sc__law_fit.nd rfl (Or.inl rfl)) (pgs_cons (pg_name (i := 8) sc__law_fit.nd rfl (Or.inl rfl)) (pgs_cons (pg_name (i := 9) sc__law_fit.nd rfl (Or.inl rfl)) pgs_nil)))))) (pss_cons (ps_if (PW.pt (pw_and (pt_cmpR op_notN (pe_ix ix_list (pv 2) (pv 5) (fun _ _ => rfl)) pe_non (nomark _)) (pw_and1 (pt_cmpR op_isN (pe_ix ix_list (pv 2) (pv 6) (fun _ _ => rfl)) pe_non (nomark _))))) (pss_one (ps_asg (pe_cal c__law_over (hr.mono (by decide)) (by rfl) (pa_cons (pe_cal c__law_times (hr.mono (by decide)) (by rfl) (pa_cons (pe_ix ix_list (pv 2) (pv 5) (fun _ _ => rfl)) (pa_cons (pv 7) pa_nil))) (pa_cons (pv 9) pa_nil))) (pg_sub (pv 2) (pv 6) set_list))) pss_nil)
        (pss_one (ps_if (PW.pt (pw_and (pt_cmpR op_notN (pe_ix ix_list (pv 2) (pv 6) (fun _ _ => rfl)) pe_non (nomark _)) (pw_and1 (pt_cmpR op_isN (pe_ix ix_list (pv 2) (pv 5) (fun _ _ => rfl)) pe_non (nomark _))))) (pss_one (ps_asg (pe_cal c__law_over (hr.mono (by decide)) (by rfl) (pa_cons (pe_cal c__law_times (hr.mono (by decide)) (by rfl) (pa_cons (pe_ix ix_list (pv 2) (pv 6) (fun _ _ => rfl)) (pa_cons (pv 8) pa_nil))) (pa_cons (pv 9) pa_nil))) (pg_sub (pv 2) (pv 5) set_list))) pss_nil))))))
        (pss_cons (ps_for PassesOwn.never rfl (pi_list (pv 0)) (pg_tup (n := 5) rfl (pgs_cons (pg_name (i := 5) sc__law_fit.nd rfl (Or.inl rfl)) (pgs_cons (pg_name (i := 6) sc__law_fit.nd rfl (Or.inl rfl)) (pgs_cons (pg_name (i := 7) sc__law_fit.nd rfl (Or.inl rfl)) (pgs_cons (pg_name (i := 8) sc__law_fit.nd rfl (Or.inl rfl)) (pgs_cons (pg_name (i := 9) sc__law_fit.nd rfl (Or.inl rfl)) pgs_nil)))))) (pss_one (ps_if (pt_cmpR (op_neP (u62 hr)) (pe_cal c__law_times (hr.mono (by decide)) (by rfl) (pa_cons (pe_ix ix_list (pv 2) (pv 5) (fun _ _ => rfl)) (pa_cons (pv 7) pa_nil))) (pe_cal c__law_times (hr.mono (by decide)) (by rfl) (pa_cons (pe_ix ix_list (pv 2) (pv 6) (fun _ _ => rfl)) (pa_cons (pv 9) pa_nil))) (nomark _)) (pss_one (ps_ret pe_non)) pss_nil)))
        (pss_one (ps_ret (pe_callTy call_tuple_of (by rfl) T.z_tuple (by decide +kernel) (pa_cons (pv 2) pa_nil)))))))), ?_⟩
    have g1 := g.n1
    have g8 := g.n8
    have glen := g.len
    refine ⟨by show 1 ≤ sizeLine; decide, fun l1 hl1 => ?_⟩
    refine ⟨_, rfl, l1, n, _, rfl, rfl, upd_same, by omega, by omega, by rw [sizeLine_eq]; simp; omega, fun F0 hF0 => ?_⟩
    have erep : (List.replicate n.toNat [V.non]).flatten = List.replicate n.toNat V.non := by simp
    rw [erep]
    have sF := (same_upd (o := .lst [.non]) hl1).trans (same_upd (o := .lst (List.replicate n.toNat V.non)) hF0)
    have hF0H : H F0 = none := (same_upd (o := .lst [.non]) hl1).free hF0
    have fill0 : FillL K (upd (upd H l1 (.lst [.non])) F0 (.lst (List.replicate n.toNat V.non))) F0 n [] (fun _ => 1) := by
      refine ⟨_, upd_same, by simp; omega, fun w w0 w1 => ⟨.non, ?_, .inr ⟨by simp, rfl⟩⟩⟩
      obtain ⟨j, rfl⟩ := Int.eq_ofNat_of_zero_le w0
      refine atI_nat ?_
      rw [List.getElem?_replicate, if_pos (by omega)]
    generalize upd (upd H l1 (.lst [.non])) F0 (.lst (List.replicate n.toNat V.non)) = H1 at *
    refine ⟨_, rfl, _, rfl, l, xs, n, S, rfl, sF _ _ hl, hs.same sF, g, fun Ps ts p H2 s2 pn hp hts hP => ⟨p, rfl, ⟨_, SqL.of hp⟩, ?_⟩⟩
    have lF : l ≠ F0 := ne_of_none hl hF0H
    have pF : p ≠ F0 := fun z => by
      obtain ⟨vs, h1, _⟩ := fill0
      rw [z, h1] at pn
      cases pn
    refine for_list (K := K) (xs := ts.map V.ref) (fun i σ H' => But F0 H2 H' ∧ ∃ (fs : List Int) (f : Int → Rat) (u3 : Option V), FillL K H' F0 n fs f ∧ SwM n S fs f ∧ fs = rootsOf (Ps.take i) ∧ σ = [some (.ref l), some (.int n), some (.ref F0), u3, none, none, none, none, none, none]) ?_ ?_ ?_ ?_
    · exact ⟨But.refl, [], _, _, fill0.same s2, SwM.nil n S, by simp [rootsOf], rfl⟩
    · rintro i σ H' _ ⟨hb, _⟩
      exact SqL.of (hb _ _ pF hp)
    · rintro i x σ H3 hx ⟨hb, fs, f, u3, hf, hm, efs, rfl⟩
      rw [List.getElem?_map] at hx
      obtain ⟨ti, hti, rfl⟩ := Option.map_eq_some_iff.mp hx
      obtain ⟨q, hq, htq⟩ := hts.get hti
      obtain ⟨r0, r00, r01, hr0⟩ := hP.each q (List.mem_of_getElem? hq)
      match q, hq, htq, hr0 with
      | [], _, _, hr0 => exact absurd ((hr0 r0).mpr (Con.refl _ _)) (by simp)
      | r :: q', hq, htq, hr0 =>
      have hrr : Con S r0 r := (hr0 r).mp (by simp)
      have hrn := con_in g.good r00 r01 hrr
      have htk : (Ps.take (i + 1)).flatten = (Ps.take i).flatten ++ (r :: q') := by
        rw [take_snoc hq]
        simp
      have hdis : ∀ x, x ∈ (Ps.take i).flatten → x ∉ r :: q' := by
        have h1 := hP.nd
        rw [← List.take_append_drop (i + 1) Ps, List.flatten_append, htk] at h1
        have h2 := (List.nodup_append.mp (List.nodup_append.mp h1).1).2.2
        exact fun x hx hy => h2 x hx x hy rfl
      have apart : ∀ x ∈ fs, ¬ Con S x r := fun x hx c => by
        rw [efs] at hx
        obtain ⟨p2, hp2, hxp⟩ := rootsOf_in hx
        obtain ⟨r2, _, _, hr2⟩ := hP.each p2 (List.mem_of_mem_take hp2)
        exact hdis r (List.mem_flatten.mpr ⟨p2, hp2, (hr2 r).mpr (((hr2 x).mp hxp).trans c)⟩) (by simp)
      have hrf : r ∉ fs := fun z => apart r z (Con.refl _ _)
      obtain ⟨vs0, e0, _⟩ := id hf
      have htq3 := hb _ _ (fun z => by obtain ⟨vs1, e1, _⟩ := fill0.same s2; rw [z, e1] at htq; cases htq) htq
      refine ⟨by show 2 ≤ sizeLine; decide, fun pp hpp => ?_⟩
      have s4 := same_upd (o := .tup [.int 1, .int 1]) hpp
      obtain ⟨vs, k1, k2, k3⟩ := (hf.same s4).put hrn.1 hrn.2 hrf (v := .ref pp) (q := 1) ⟨pp, rfl, SqT.of upd_same⟩
      refine ⟨_, rfl, _, rfl, ti, _, 0, .int r, rfl, rfl, SqT.of (s4 _ _ htq3), atI_nat (j := 0) rfl, F0, vs, r, _, rfl, rfl, k1, k2, ?_⟩
      refine ⟨(hb.trans (But.of s4)).upd, fs ++ [r], _, _, k3, hm.put hrf hrn.1 hrn.2 (by decide +kernel) (Bd.mono (n := 1) ⟨by decide, by decide⟩ (by omega)) fun x hx c => absurd c (apart x hx), ?_, rfl⟩
      rw [take_snoc hq, rootsOf_snoc, efs]
    · rintro σ H3 ⟨hb, fs, f, u3, hf, hm, efs, rfl⟩
      have tl : (ts.map V.ref).length = Ps.length := by rw [List.length_map]; exact Paired.length hts
      rw [tl, List.take_of_length_le (Nat.le_refl _)] at efs
      have s03 : Same H H3 := hb.sameOf (sF.trans s2) hF0H
      refine ⟨_, rfl, n, rfl, by omega, by omega, ?_⟩
      refine for_range (fun t σ H' => Same H H' ∧ ∃ (fs : List Int) (f : Int → Rat) (u3 u4 u5 u6 u7 u8 u9 : Option V), FillL K H' F0 n fs f ∧ SwM n S fs f ∧ Fed S (rootsOf Ps) fs t ∧ σ = [some (.ref l), some (.int n), some (.ref F0), u3, u4, u5, u6, u7, u8, u9])
        ⟨s03, fs, f, _, _, _, _, _, _, _, hf, hm, fun r hr q w hq hl => ?_, rfl⟩ ?_ ?_
      · have e := List.length_eq_zero_iff.mp (Nat.le_zero.mp hl)
        subst e
        cases (show r = w from hq)
        rw [efs]
        exact hr
      · clear hf hm efs fs f hb s03 fill0
        rintro t σ H4 ht ⟨s4, fs, f, u3, u4, u5, u6, u7, u8, u9, hf, hm, hfed, rfl⟩
        rw [Int.zero_add]
        refine ⟨_, rfl, l, rfl, ⟨_, SqL.of (s4 _ _ hl)⟩, ?_⟩
        refine for_list (K := K) (xs := xs) (fun q σ H' => Same H H' ∧ ∃ (fs : List Int) (f : Int → Rat) (u3 u4 u5 u6 u7 u8 u9 : Option V), FillL K H' F0 n fs f ∧ SwM n S fs f ∧ Fed S (rootsOf Ps) fs t ∧ FedW S (rootsOf Ps) fs t q ∧ σ = [some (.ref l), some (.int n), some (.ref F0), u3, u4, u5, u6, u7, u8, u9])
          ⟨s4, fs, f, _, _, _, _, _, _, _, hf, hm, hfed, fun j st hj => absurd hj (Nat.not_lt_zero _), rfl⟩ (fun q σ H' _ h => SqL.of (h.1 _ _ hl)) ?_ ?_
        · rintro q x σ H5 hx ⟨s5, fs, f, u3, u4, u5, u6, u7, u8, u9, hf, hm, hfed, hw, rfl⟩
          obtain ⟨st, es, hst⟩ := hs.get hx
          have ms := List.mem_of_getElem? es
          have gs := g.good st ms
          obtain ⟨sb, z1, z2, z3, rfl, hsb, y1, y2, y3⟩ := hst.same s5
          refine ⟨sb, _, rfl, hsb, rfl, _, _, rfl, _, _, rfl, _, _, rfl, _, _, rfl, _, _, rfl, rfl, ?_⟩
          have o1 : st.oth st.one = st.other := by unfold Stall.oth; rw [if_pos rfl]
          have o2 : st.oth st.other = st.one := by unfold Stall.oth; rw [if_neg gs.ne]
          have h1 : st.hold st.one = st.here := by unfold Stall.hold; rw [if_pos rfl]
          have h2 : st.hold st.other = st.beside := by unfold Stall.hold; rw [if_neg gs.ne]
          refine seq_of (fill_if (ia := 5) (ib := 6) (ih := 7) (x := st.one) g ms (.inl rfl) rfl rfl (by rw [o1]; rfl) rfl rfl (by rw [h1]; exact y1) y3 hf hm fun H6 fs6 f6 b6 hf6 hm6 sub6 get6 => ?_)
          obtain ⟨vs5, e5, _⟩ := id hf
          have k6 := b6.keep (K := K) e5
          refine fill_if (ia := 6) (ib := 5) (ih := 8) (x := st.other) g ms (.inr rfl) rfl rfl (by rw [o2]; rfl) rfl rfl (by rw [h2]; exact y2.keep k6) (y3.keep k6) hf6 hm6 fun H7 fs7 f7 b7 hf7 hm7 sub7 get7 => ?_
          have b57 := b6.trans b7
          refine ⟨b57.sameOf s5 hF0H, fs7, f7, _, _, _, _, _, _, _, hf7, hm7, fun r hr p w hp hl => sub7 _ (sub6 _ (hfed r hr p w hp hl)), fun j st' hj e' r hr p x hp hl hx => ?_, rfl⟩
          rcases Nat.lt_succ_iff_lt_or_eq.mp hj with c | rfl
          · exact sub7 _ (sub6 _ (hw j st' c e' r hr p x hp hl hx))
          · rw [es] at e'
            cases e'
            have hxf := hfed r hr p x hp hl
            rcases hx with rfl | rfl
            · exact sub7 _ (get6 hxf)
            · exact get7 (sub6 _ hxf)
        · rintro σ H5 ⟨s5, fs, f, u3, u4, u5, u6, u7, u8, u9, hf, hm, hfed, hw, rfl⟩
          rw [hs.len] at hw
          exact ⟨s5, fs, f, _, _, _, _, _, _, _, hf, hm, hw.done hfed, rfl⟩
      · clear hf hm efs fs f hb s03 fill0
        rintro σ H4 ⟨s4, fs, f, u3, u4, u5, u6, u7, u8, u9, hf, hm, hfed, rfl⟩
        have hS : ScalesOf n S fs f := by
          refine ⟨hm, fun x x0 x1 => ?_⟩
          obtain ⟨q, hq, hxq⟩ := List.mem_flatten.mp (hP.cover x x0 x1)
          obtain ⟨r0, r00, r01, hr0⟩ := hP.each q hq
          match q, hq, hxq, hr0 with
          | r :: q', hq, hxq, hr0 =>
            have hrr := (hr0 r).mp (by simp)
            have hrn := con_in g.good r00 r01 hrr
            obtain ⟨w, hw, hwl⟩ := short_path g.good hrn.1 hrn.2 (hrr.symm.trans ((hr0 x).mp hxq))
            exact hfed r (List.mem_filterMap.mpr ⟨_, hq, rfl⟩) w x hw hwl
        have hfl := nodup_len hm.nd hm.inn
        refine ⟨_, rfl, l, rfl, ⟨_, SqL.of (s4 _ _ hl)⟩, ?_⟩
        refine for_list (K := K) (xs := xs) (fun q σ H' => Same H H' ∧ FillL K H' F0 n fs f ∧ (∀ st ∈ S.take q, FitS f st) ∧ ∃ (u3 u4 u5 u6 u7 u8 u9 : Option V), σ = [some (.ref l), some (.int n), some (.ref F0), u3, u4, u5, u6, u7, u8, u9])
          ⟨s4, hf, by simp, _, _, _, _, _, _, _, rfl⟩ (fun q σ H' _ h => SqL.of (h.1 _ _ hl)) ?_ ?_
        · rintro q x σ H5 hx ⟨s5, hf5, hfit, u3, u4, u5, u6, u7, u8, u9, rfl⟩
          obtain ⟨st, es, hst⟩ := hs.get hx
          have ms := List.mem_of_getElem? es
          have gs := g.good st ms
          have bs := g.bd st ms
          obtain ⟨sb, z1, z2, z3, rfl, hsb, y1, y2, y3⟩ := hst.same s5
          refine ⟨sb, _, rfl, hsb, rfl, _, _, rfl, _, _, rfl, _, _, rfl, _, _, rfl, _, _, rfl, rfl, ?_⟩
          obtain ⟨vs, h1, h2, h3⟩ := id hf5
          have in1 := hS.all _ gs.a0 gs.a1
          have in2 := hS.all _ gs.b0 gs.b1
          obtain ⟨va, a1, a2⟩ := h3 st.one gs.a0 gs.a1
          obtain ⟨vb, b1, b2⟩ := h3 st.other gs.b0 gs.b1
          have fa := (a2.resolve_right fun z => z.1 in1).2
          have fb := (b2.resolve_right fun z => z.1 in2).2
          refine ⟨_, rfl, _, rfl, F0, vs, st.one, va, rfl, rfl, SqL.of h1, a1, _, rfl, va, z1, f st.one, st.here, 1 + 24 * fs.length, 12, rfl, fa, y1, hm.bd _ in1, bs.h, by omega, by decide, by omega, fun v1 H6 s6 f6 => ?_⟩
          refine ⟨_, rfl, _, rfl, F0, vs, st.other, vb, rfl, rfl, SqL.of (s6 _ _ h1), b1, _, rfl, vb, z3, f st.other, st.root, 1 + 24 * fs.length, 12, rfl, fb.same s6, y3.same s6, hm.bd _ in2, bs.r, by omega, by decide, by omega, fun v2 H7 s7 f7 => ?_⟩
          obtain ⟨c1, rfl, f6'⟩ := f6.same s7
          obtain ⟨c2, rfl, f7'⟩ := f7
          refine ⟨encL [(f st.one * st.here).num, ((f st.one * st.here).den : Int)], encL [(f st.other * st.root).num, ((f st.other * st.root).den : Int)], IntsA.dp ⟨c1, rfl, f6'⟩, IntsA.dp ⟨c2, rfl, f7'⟩, plain_L _, plain_L _, Nat.le_trans (depth_L _) (by decide), _, rfl, ?_⟩
          rw [eqv_L]
          have s57 := s6.trans s7
          by_cases c : FitS f st
          · refine iteN ?_ ⟨s5.trans s57, hf5.same s57, fun st' m' => ?_, _, _, _, _, _, _, _, rfl⟩
            · rw [decide_eq_true (frac_eq.mpr c)]
              rfl
            · rw [take_snoc es] at m'
              rcases List.mem_append.mp m' with m' | m'
              · exact hfit st' m'
              · rw [List.mem_singleton.mp m']
                exact c
          · refine iteY ?_ (k _ _ (s5.trans s57) (.inl ⟨rfl, fun z => c ((hS.right g.good).mpr z st ms)⟩))
            rw [decide_eq_false fun z => c (frac_eq.mp z)]
            rfl
        · rintro σ H5 ⟨s5, ⟨vs, h1, _⟩, hfit, u3, u4, u5, u6, u7, u8, u9, rfl⟩
          rw [hs.len, List.take_of_length_le (Nat.le_refl _)] at hfit
          exact ⟨_, rfl, F0, vs, rfl, .inl ⟨SqL.of h1, fun tt htt => k _ _ (s5.trans (same_upd htt)) (.inr ⟨tt, rfl, (hS.right g.good).mp hfit⟩)⟩⟩
end
end K32
end

section
set_option Elab.async false
set_option linter.all false
set_option maxRecDepth 100000
set_option maxHeartbeats 4000000
/-! K32LF: the law's own fewest. -/
namespace K32
open PySem PySem.Spec PyProof.Rows L2
section
variable {P : Program} {w : World} {K : PySem.W.Frag} {mg : Str → Option Value} {base : Heap} {C Cw : Addr}

abbrev st__law_fewest : Stmt := topS 60
theorem sc__law_fewest : FnScope ["_law_stalls_here", "_law_wares", "_law_lots", "_law_k", "_law_lot", "_law_size", "_law_left"] ["_law_stalls_here", "_law_wares"] (defScope st__law_fewest) := ⟨rfl, rfl, rfl, by decide +kernel, rfl, by decide +kernel, by decide +kernel⟩
def spLFew (K : PySem.W.Frag) : Sp := fun vs H Q _ => ∃ (l : Addr) (xs : List V) (n : Int) (S : List Stall), vs = [.ref l, .int n] ∧ H l = some (.lst xs) ∧ StAll K H xs S ∧ GoodW n S ∧
  ∀ u t H', Same H H' → IntsA K H' u t → FirstFit S (orderOf S.length) t → Q u H'
theorem ok_law_fewest (D : Def K mg "_law_fewest" st__law_fewest ["_law_stalls_here", "_law_wares"]) (T : Txt K mg C Cw) (c__law_fit : Cal P w K mg base "_law_fit" 4 ["_law_stalls_here", "_law_wares"] (spLFit K)) :
    Cal P w K mg base "_law_fewest" 5 ["_law_stalls_here", "_law_wares"] (spLFew K) := by
  refine D.ok sc__law_fewest (fun vs H Q E h => ?_) (fun f cdv A outer s H vs Q E hr h => ?_)
  · obtain ⟨l, xs, n, S, rfl, _⟩ := h
    rfl
  · obtain ⟨l, xs, n, S, rfl, hl, hs, g, k⟩ := h
    refine ⟨_, (pss_cons (ps_set (i := 2) sc__law_fewest.nd rfl (Or.inl rfl) (pe_lst (pa_cons (pe_tup pa_nil) pa_nil)))
        (pss_cons (ps_for PassesOwn.never rfl (pi_range1 (by rfl) T.z_range (pa_cons (pe_callB call_len_seq (by rfl) T.z_len (by decide +kernel) (pa_cons (pv 0) pa_nil)) pa_nil)) (pg_name (i := 3) sc__law_fewest.nd rfl (Or.inr rfl)) (pss_one (ps_set (i := 2) sc__law_fewest.nd rfl (Or.inl rfl) (pe_op op_cat (pv 2) (pe_lc (own := [("_law_lot", 4)]) (by rfl) sc__law_fewest.nd (pi_list (pv 2)) (blkOk_by (own := [("_law_lot", 4)]) (by kernel_rfl)) (fun _ _ _ _ _ => (pg_name (i := 4) sc__law_fewest.nd rfl (Or.inl rfl))) (fun _ _ _ _ _ => pts_nil) (fun _ _ _ _ _ => (pe_op (catA_in (K := K) rfl) (pv 4) (pe_tup (pa_cons (pv 3) pa_nil)))))))))
        (pss_cons (ps_for PassesOwn.never rfl (pi_list (pe_callB (cr_sortedD (enc := encZ) alike_Z (fun b => Nat.le_trans (depth_Z b) (by decide)) (u62 hr)) (by rfl) T.z_sorted (by decide +kernel) (pa_cons (pe_lc (own := [("_law_lot", 4)]) (by rfl) sc__law_fewest.nd (pi_list (pv 2)) (blkOk_by (own := [("_law_lot", 4)]) (by kernel_rfl)) (fun _ _ _ _ _ => (pg_name (i := 4) sc__law_fewest.nd rfl (Or.inl rfl))) (fun _ _ _ _ _ => pts_nil) (fun _ _ _ _ _ => (pe_tup (pa_cons (pe_callB (len_in (K := K) rfl) (by rfl) T.z_len (by decide +kernel) (pa_cons (pv 4) pa_nil)) (pa_cons (pv 4) pa_nil))))) pa_nil))) (pg_tup (n := 2) rfl (pgs_cons (pg_name (i := 5) sc__law_fewest.nd rfl (Or.inl rfl)) (pgs_cons (pg_name (i := 4) sc__law_fewest.nd rfl (Or.inr rfl)) pgs_nil))) (pss_cons (ps_setLc (i := 6) (own := [("_law_k", 3)]) (by rfl) sc__law_fewest.nd rfl rfl (sw_true rfl rfl rfl (by decide +kernel)) (pi_range1 (by rfl) T.z_range (pa_cons (pe_callB call_len_seq (by rfl) T.z_len (by decide +kernel) (pa_cons (pv 0) pa_nil)) pa_nil)) (blkOk_by (own := [("_law_k", 3)]) (by kernel_rfl)) (fun _ _ _ _ _ => (pg_name (i := 3) sc__law_fewest.nd rfl (Or.inl rfl))) (fun _ _ _ _ _ => pts_one (pt_cmpR (notIn_in (K := K) rfl) (pv 3) (pv 4) (by rfl))) (fun _ _ _ _ _ => (pe_ix (ixL_in (K := K) rfl) (pv 0) (pv 3) (fun _ _ => rfl))))
        (pss_one (ps_if (pt_cmpR op_notN (pe_cal c__law_fit (hr.mono (by decide)) (by rfl) (pa_cons (pv 6) (pa_cons (pv 1) pa_nil))) pe_non (nomark _)) (pss_one (ps_ret (pv 4))) pss_nil))))
        (pss_one (ps_ret pe_non))))), ?_⟩
    have g1 := g.n1
    have g8 := g.n8
    have glen := g.len
    have hxl := hs.len
    refine ⟨by show 0 ≤ sizeLine; exact Nat.zero_le _, fun t0 ht0 => ⟨by show 1 ≤ sizeLine; decide, fun l0 hl0 => ?_⟩⟩
    have sA := (same_upd (o := .tup []) ht0).trans (same_upd (o := .lst [.ref t0]) hl0)
    have et0 := (same_upd (o := .lst [.ref t0]) hl0) t0 _ upd_same
    refine ⟨_, rfl, l, xs, rfl, .inl (SqL.of (sA _ _ hl)), (S.length : Nat), by rw [hxl], by omega, by omega, ?_⟩
    rw [Int.toNat_natCast]
    have lot_len : ∀ i, i ≤ S.length → (lots i).length ≤ 256 := fun i hi => by
      rw [lots_len]
      exact Nat.pow_le_pow_right (n := 2) (by decide) (show i ≤ 8 by omega)
    refine for_range (fun i σ H' => i ≤ S.length ∧ Same H H' ∧ ∃ (lp : Addr) (vs : List V) (u3 : Option V), H' lp = some (.lst vs) ∧ DpAll K H' vs ((lots i).map encL) ∧ σ = [some (.ref l), some (.int n), some (.ref lp), u3, none, none, none])
      ⟨Nat.zero_le _, sA, l0, [.ref t0], _, upd_same, .cons (.tup (SqT.of et0) .nil) .nil, rfl⟩ ?_ ?_
    · rintro i σ H1 hi ⟨_, s1, lp, vs, u3, hlp, hvs, rfl⟩
      rw [Int.zero_add]
      have hvl := dpAll_len hvs
      rw [List.length_map] at hvl
      have hll := lot_len i (by omega)
      refine ⟨_, rfl, _, rfl, lp, rfl, ⟨_, SqL.of hlp⟩, fun D hD => ?_⟩
      refine lc_list (K := K) (xs := vs) (fun j H' => Same H1 H' ∧ ∃ ws, H' D = some (.lst ws) ∧ DpAll K H' ws ((((lots i).take j).map fun r => r ++ [(i : Int)]).map encL)) ⟨same_upd hD, [], upd_same, .nil⟩ (fun j H' _ h => SqL.of (h.1 _ _ hlp)) ?_ ?_
      · rintro j x H2 hx ⟨s2, ws, d1, d2⟩
        obtain ⟨r, hr0, hra⟩ := rows_get hvs hx
        obtain ⟨rb, rfl, hrb⟩ := hra.same s2
        have hrl := asc_len (mem_lots.mp (List.mem_of_getElem? hr0))
        have hj : j < vs.length := (List.getElem?_eq_some_iff.mp hx).1
        refine ⟨rfl, yes_if ⟨_, rfl, _, rfl, by show 1 ≤ sizeLine; decide, fun p hp => ?_⟩⟩
        have s3 := same_upd (o := .tup [.int (i : Nat)]) hp
        refine catQ_of (hrb.ext s3) (SqT.of upd_same) (by simp; omega) fun q H4 s4 hq => ?_
        have s34 := s3.trans s4
        have d4 := s34 _ _ d1
        have hwl := dpAll_len d2
        rw [List.length_map, List.length_map, List.length_take] at hwl
        have hk := sqT_lst (K := K) (o2 := .lst (ws ++ [.ref q])) d4
        refine ⟨ws, d4, small1000 (by omega), Same.mut (s2.trans s34) hD, _, upd_same, ?_⟩
        have e : DpAll K H4 (ws ++ [.ref q]) ((((lots i).take (j + 1)).map fun r => r ++ [(i : Int)]).map encL) := by
          rw [take_snoc hr0, List.map_append, List.map_append]
          refine dpAll_app (dpAll_same s34 d2) (.cons (IntsA.dp ⟨q, rfl, ?_⟩) .nil)
          rw [List.map_append]
          exact hq
        exact dpAll_keep hk e (tupOnlyAll_map tupOnly_L _)
      · rintro H2 ⟨s2, ws, d1, d2⟩
        rw [hvl, List.take_of_length_le (Nat.le_refl _)] at d2
        have hwl := dpAll_len d2
        rw [List.length_map, List.length_map] at hwl
        refine ⟨lp, D, vs, ws, rfl, rfl, s2 _ _ hlp, d1, by rw [sizeLine_eq]; omega, fun p hp => ?_⟩
        refine ⟨by omega, (s1.trans s2).trans (same_upd hp), p, _, _, upd_same, ?_, rfl⟩
        rw [lots, List.map_append]
        exact dpAll_same (same_upd hp) (dpAll_app (dpAll_same s2 hvs) d2)
    · rintro σ H1 ⟨_, s1, lp, vs, u3, hlp, hvs, rfl⟩
      have hvl := dpAll_len hvs
      rw [List.length_map] at hvl
      have hll := lot_len S.length (Nat.le_refl _)
      refine ⟨_, rfl, lp, rfl, ⟨_, SqL.of hlp⟩, fun D hD => ?_⟩
      refine lc_list (K := K) (xs := vs) (fun j H' => Same H1 H' ∧ ∃ ws, H' D = some (.lst ws) ∧ DpAll K H' ws (((lots S.length).take j).map encZ)) ⟨same_upd hD, [], upd_same, .nil⟩ (fun j H' _ h => SqL.of (h.1 _ _ hlp)) ?_ ?_
      · rintro j x H2 hx ⟨s2, ws, d1, d2⟩
        obtain ⟨r, hr0, hra⟩ := rows_get hvs hx
        obtain ⟨rb, rfl, hrb⟩ := hra.same s2
        have hj : j < vs.length := (List.getElem?_eq_some_iff.mp hx).1
        refine ⟨rfl, yes_if ⟨_, rfl, rb, _, rfl, .inr hrb, _, rfl, by show 2 ≤ sizeLine; decide, fun p hp => ?_⟩⟩
        have s3 := same_upd (o := .tup [.int ((r.map V.int).length : Nat), .ref rb]) hp
        have d4 := s3 _ _ d1
        have hwl := dpAll_len d2
        rw [List.length_map, List.length_take] at hwl
        have hk := sqT_lst (K := K) (o2 := .lst (ws ++ [.ref p])) d4
        refine ⟨ws, d4, small1000 (by omega), Same.mut (s2.trans s3) hD, _, upd_same, ?_⟩
        have e : DpAll K (upd H2 p (.tup [.int ((r.map V.int).length : Nat), .ref rb])) (ws ++ [.ref p]) (((lots S.length).take (j + 1)).map encZ) := by
          rw [take_snoc hr0, List.map_append]
          refine dpAll_app (dpAll_same s3 d2) (.cons (.tup (SqT.of upd_same) ?_) .nil)
          exact .cons (dp_int_eq (by simp)) (.cons (IntsA.dp ⟨rb, rfl, hrb.ext s3⟩) .nil)
        exact dpAll_keep hk e (tupOnlyAll_map tupOnly_Z _)
      · rintro H2 ⟨s2, ws, d1, d2⟩
        rw [hvl, List.take_of_length_le (Nat.le_refl _)] at d2
        refine ⟨D, ws, lots S.length, rfl, SqL.of d1, d2, sortable_Z _, fun ys p hys hp => ⟨p, rfl, ⟨_, SqL.of upd_same⟩, ?_⟩⟩
        have hys' : DpAll K H2 ys ((orderOf S.length).map encZ) := hys
        have sp := same_upd (o := .lst ys) hp
        have s12 := s1.trans (s2.trans sp)
        have hyl := dpAll_len hys'
        rw [List.length_map] at hyl
        obtain ⟨w0, hw0⟩ := FirstFit.exists (S := S) (order_ok S.length)
        refine for_list (K := K) (xs := ys) (fun i σ H' => Same (upd H2 p (.lst ys)) H' ∧ (∀ x ∈ (orderOf S.length).take i, ¬ Fits (leftOf S x)) ∧ ∃ u2 u3 u4 u5 u6, σ = [some (.ref l), some (.int n), u2, u3, u4, u5, u6]) ⟨fun _ _ e => e, by simp, _, _, _, _, _, rfl⟩ (fun i σ H' _ h => SqL.of (h.1 _ _ upd_same)) ?_ ?_
        · rintro i x σ H3 hx ⟨s3, hno, u2, u3, u4, u5, u6, rfl⟩
          obtain ⟨r, hr0, b, u, rfl, hb, rb, rfl, hrb⟩ := rows_getZ (dpAll_same (sp.trans s3) hys') hx
          have sH := s12.trans s3
          refine ⟨b, _, rfl, hb, rfl, _, _, rfl, _, _, rfl, rfl, ?_⟩
          refine ⟨_, rfl, l, xs, rfl, .inl (SqL.of (sH _ _ hl)), (S.length : Nat), by rw [hxl], by omega, by omega, fun D2 hD2 => ?_⟩
          rw [Int.toNat_natCast]
          refine lc_range (Pv := fun q H' => Same H3 H' ∧ ∃ acc, H' D2 = some (.lst acc) ∧ StAll K H' acc (leftAt S r q)) ⟨same_upd hD2, [], upd_same, .nil⟩ ?_ ?_
          · rintro q H4 hq ⟨s4, acc, d1, d2⟩
            rw [Int.zero_add]
            refine ⟨rfl, _, rfl, _, rfl, rb, _, rfl, .inr (hrb.ext s4), rfl, by simp [flatV], ?_⟩
            rw [if_pos rfl, inV_int]
            refine ⟨_, rfl, ?_⟩
            by_cases c : (q : Int) ∈ r
            · refine iteN (by simp [c]) ⟨s4, acc, d1, ?_⟩
              rw [leftAt_yes c]
              exact d2
            · have es : S[q]? = some S[q] := List.getElem?_eq_getElem hq
              obtain ⟨x2, hx2, hst⟩ := hs.get' es
              have hk := sqT_lst (K := K) (o2 := .lst (acc ++ [x2])) d1
              have hal := d2.len
              have := leftAt_len S r q
              refine iteY (by simp [c]) ⟨_, rfl, _, rfl, l, xs, (q : Int), x2, rfl, rfl, SqL.of ((sH.trans s4) _ _ hl), atI_nat hx2, acc, d1, small1000 (by omega), Same.mut s4 hD2, _, upd_same, ?_⟩
              rw [leftAt_no c es]
              exact StAll.app (Paired.mapP d2 fun _ _ h => h.keep hk) (.cons ((hst.same (sH.trans s4)).keep hk) .nil)
          · rintro H4 ⟨s4, acc, d1, d2⟩
            have hleft : StAll K H4 acc (leftOf S r) := d2
            refine ⟨_, rfl, _, rfl, D2, acc, n, leftOf S r, rfl, d1, hleft, left_good g r, fun z H5 s5 hz => ?_⟩
            have s35 := s4.trans s5
            rcases hz with ⟨rfl, hz⟩ | ⟨l2, rfl, hfit⟩
            · refine ⟨rfl, _, rfl, iteF ⟨s3.trans s35, fun x hx => ?_, _, _, _, _, _, rfl⟩⟩
              rw [take_snoc hr0] at hx
              rcases List.mem_append.mp hx with hx | hx
              · exact hno x hx
              · rw [List.mem_singleton.mp hx]
                exact hz
            · refine ⟨rfl, _, rfl, iteT ⟨_, rfl, k _ r H5 (sH.trans s35) ⟨rb, rfl, hrb.ext s35⟩ ⟨(orderOf S.length).take i, (orderOf S.length).drop (i + 1), ?_, hno, hfit⟩⟩⟩
              obtain ⟨hi, e⟩ := List.getElem?_eq_some_iff.mp hr0
              rw [← e, ← List.drop_eq_getElem_cons hi, List.take_append_drop]
        · rintro σ H3 ⟨s3, hno, u2, u3, u4, u5, u6, rfl⟩
          rw [hyl, List.take_of_length_le (Nat.le_refl _)] at hno
          obtain ⟨p, q, e, _, hf⟩ := hw0
          exact absurd hf (hno w0 (by rw [e]; simp))
end
end K32
end

section
set_option Elab.async false
set_option linter.all false
set_option maxRecDepth 100000
set_option maxHeartbeats 4000000
/-! K32LG: a def whose promise leans on the caller's own setting (nothing is being shown by repr ahead of it), and a law's end for it. -/
namespace K32
open PySem PySem.Spec PyProof.Rows L2
/-- as FnOk, for places where nothing is being shown -/
def GOk (P : Program) (w : World) (K : PySem.W.Frag) (mg : Str → Option Value) (base : Heap) (k : Nat) (f : Addr) (fd : FuncData) (ps : List Str) (sp : Sp) : Prop :=
  ∀ (A : Around) (outer : List Env) (s : Shared) (H : Hp) (args : Args) (us : List Value) (vs : List V) (Q : VK) (E : XK), A.guards = some [] → Room k A → Env0 P w K mg base A outer s H → BindsTo s fd args (ps.zip us) → Vals vs us → sp vs H Q E →
    codeAny (model P w) A (.call (.ref f) args) (CR CX0 outer P w H s Q E) s
section
variable {P : Program} {w : World} {K : PySem.W.Frag} {mg : Str → Option Value} {base : Heap}
theorem gok_of {x qual : Str} {st : Stmt} {f : Addr} {fd : FuncData} {N ps : List Str} {k : Nat} {sp : Sp} (F : Fun K x qual st f fd) (S : FnScope N ps (defScope st)) (len : ∀ vs H Q E, sp vs H Q E → vs.length = ps.length)
    (hbody : ∀ (cdv : Value) (A : Around) (outer : List Env) (s : Shared) (H : Hp) (vs : List V) (Q : VK) (E : XK), A.guards = some [] → Room k (A.deeper (envOfC qual (defScope st) s.heap.objs.size f cdv)) → sp vs H Q E →
      ∃ t, PSs (cxOf CX0 P w K mg base N qual (defScope st) f cdv A outer s H E).nox (defBody st) t ∧ t { nx := fun _ H' => Q .non H', rt := Q } (start N vs) H) : GOk P w K mg base (k + 1) f fd ps sp := by
  intro A outer s H args us vs Q E hg hr e0 hb rv hsp
  obtain ⟨oc, od, kV, doc, pm, an, cdv, ct, osl, rfl, lk, hcd⟩ := F.ex
  obtain ⟨t, ht, hq⟩ := hbody cdv A outer s H vs Q E hg (hr.deeper _) hsp
  have old : ∀ b o, base.get? b = some o → s.heap.get? b = some o := fun b o e => (e0.bs b o e).1
  have kin : K.In s.heap := e0.mod.kin.keeps old
  have nol : s.heap.NoLimit := e0.mod.nolimit.keeps old
  have where_ : ∀ y ∈ ps.zip us, (defScope st).names.lookup y.1 = some .local ∨ ((defScope st).names.lookup y.1 = some .cell ∧ ((cellsFrom (s.heap.objs.size + 1) (defScope st).names []).lookup y.1).isSome = true) := by
    rintro ⟨n, v⟩ hy
    exact (S.par n (List.of_mem_zip hy).1).imp id fun q => ⟨q, PySem.W.cellsFrom_some _ _ _ (.inl q)⟩
  refine codeAny_call_function hr.depth (kin _ _ lk) rfl S.co S.gen rfl (PySem.W.codeRec_of kin hcd) (hb _ _ _ _ (wpAny_newFunctionEnv_cells S.kind where_ fun env he s1 x => ?_))
  subst he
  refine ⟨nol.keeps x.toInCall.keep, codeAny_func (wpAny_mono ((ht.nox).run [] s1 (start N vs) H _ (inv_start S hr.hd e0 (len _ _ _ _ hsp) rv x) hq) (fun fl s' hs => ?_) fun _ _ hs => hs)⟩
  cases fl with
  | next =>
    obtain ⟨σ', H', J, q⟩ := hs
    exact ⟨V.non, H', J.os, J.bare, J.base, J.hok, rfl, q⟩
  | ret u =>
    obtain ⟨v, σ', H', J, r, q⟩ := hs
    exact ⟨v, H', J.os, J.bare, J.base, J.hok, r, q⟩
  | brk =>
    obtain ⟨_, _, _, q⟩ := hs
    exact q.elim
  | cont =>
    obtain ⟨_, _, _, q⟩ := hs
    exact q.elim
/-- the script alone is known; how the law is entered -/
theorem script_env {mb : Str → Option Value} {a : Addr} {s₁ : Shared} {vs : List Value} {ns : List Int} (kx : K.In s₁.heap) (hns : s₁.heap.Ns mainGlobals mg) (hb : s₁.heap.Ns builtinsNs mb) (hbb : ∀ x : Str, x ≠ "__name__" → mb x = bootBuiltins x)
    (hlim : s₁.heap.NoLimit) (hg : s₁.gens = #[]) (ha : s₁.heap.get? a = some { cls := .type "list", data := .seq vs.toArray }) (hi : IntsAre vs ns) (hl : ns.length ≤ sizeLine) :
    ∃ (H : Hp) (base : Heap), SqL K H a (ns.map V.int) ∧ K.In base ∧ base.Ns mainGlobals mg ∧ Env0 P w K mg base callerA [] s₁ H ∧ ∀ (h' : Heap) (H' : Hp), Un [] [] H H' s₁.heap h' → HOk P w H' h' → OldK s₁.heap h' := by
  have rv := vals_ints hi
  have lenV : vs.length = ns.length := hi.length
  -- what is tracked
  have tr : ∃ H : Hp, SqL K H a (ns.map V.int) ∧ ∀ b u, H b = some u → b = a ∧ K.lookup a = none ∧ u = .frz { cls := .type "list", data := .seq vs.toArray } (.lst (ns.map V.int)) := by
    cases e : K.lookup a with
    | none =>
      refine ⟨fun b => if b = a then some (.frz { cls := .type "list", data := .seq vs.toArray } (.lst (ns.map V.int))) else none, .inl (.inr ⟨_, if_pos rfl⟩), fun b u h => ?_⟩
      have h' : (if b = a then some (HO.frz { cls := .type "list", data := .seq vs.toArray } (.lst (ns.map V.int))) else none) = some u := h
      split at h'
      · exact ⟨‹_›, rfl, (Option.some.inj h').symm⟩
      · cases h'
    | some o =>
      have e2 := (kx a o e).symm.trans ha
      cases e2
      exact ⟨fun _ => none, .inr ⟨_, vs.toArray, _, e, rfl, rfl, rfl, by rw [List.size_toArray, lenV]; exact hl, by simpa using rv⟩, fun b u h => nomatch h⟩
  obtain ⟨H, hS, only⟩ := tr
  have seen : ∀ {b : Addr} {o : Obj}, s₁.heap.get? b = some o → (b = a → K.lookup a = none → False) → (hidT s₁.heap H).get? b = some o := fun {b o} e n => hidT_get e (by
    cases q : H b with
    | none => rfl
    | some u => exact (n (only b u q).1 (only b u q).2.1).elim)
  have ns_ : ∀ {b : Addr} {m : Str → Option Value}, s₁.heap.Ns b m → (hidT s₁.heap H).Ns b m := fun {b m} ⟨o, es, ep, e, d, r⟩ => ⟨o, es, ep, seen e (fun z _ => by
    subst z
    rw [ha] at e
    cases e
    exact nomatch d), d, r⟩
  have kb : K.In (hidT s₁.heap H) := fun b o e => seen (kx b o e) fun z n => by
    subst z
    rw [e] at n
    cases n
  have ok : HOk P w H s₁.heap := fun b u e => by
    obtain ⟨rfl, _, rfl⟩ := only b u e
    exact ⟨ha, by rw [List.length_map]; exact hl, vs, _, rv, ha⟩
  refine ⟨H, hidT s₁.heap H, hS, kb, ns_ hns, ⟨rfl, ⟨kb, ns_ hns, ⟨mb, ns_ hb, hbb⟩, let ⟨mc, h1, h2⟩ := hlim; ⟨mc, ns_ h1, h2⟩⟩, fun b o e => of_hidT e, Nat.le_of_eq (hidT_size _ _), trivial, fun b m => absurd (show b ∈ ([] : List Addr) from m) (by simp), ok, .of_eq hg⟩, fun h' H' un ok' => OldK.of_keep fun b o e => ?_⟩
  cases q : H b with
  | none => exact un.keep b o e q (by simp) (by simp)
  | some u =>
    obtain ⟨rfl, _, rfl⟩ := only b u q
    rw [ha] at e
    cases e
    exact (ok' b _ (un.frzs b _ _ q)).1
end
/-- the end: the law's promise by GOk -/
theorem walk_g {l : PySem.W.OpenLaw} {n k : Nat} {q : Program} {loose : List Str} {XP : (Str → Option Value) → Heap → Prop} {YP : World → Heap → Prop} {d : DefRec} {K : Params → PySem.W.Frag} {sp : World → Sp} {x : Str}
    (hn : l.most = some n) (hn2 : n ≤ sizeLine) (hdf : d.params.defaults = []) (hr : Room k callerA) (hY : ∀ (w : World) (h : Heap), YP w h → (K w.params).In h)
    (F : ∀ (w : World) (mg : Str → Option Value) (fa : Addr) (h : Heap), (K w.params).In h → h.Ns mainGlobals mg → mg d.name = some (.ref fa) →
      ∃ fd : FuncData, (∀ (s : Shared) (u : Value), BindsTo s fd ⟨[u], []⟩ [(x, u)]) ∧ ∀ base : Heap, (K w.params).In base → base.Ns mainGlobals mg → GOk l.prog w (K w.params) mg base k fa fd [x] (sp w))
    (hsp : ∀ (w : World) (H : Hp) (a : Addr) (ns : List Int), ns.length ≤ n → SqL (K w.params) H a (ns.map V.int) → sp w [.ref a] H (fun v _ => v = .bl true) fun _ _ _ => False) :
    PySem.W.WalkO q loose XP YP l.row.toRowW d [] (fun f vs => PySem.call f vs) := by
  refine Att.attach_call hn hdf fun w s₀ s₁ mg mb fa o pm cd doc a vs ns G Y ho hd hcd hmg hobj hints hlen hg => ?_
  have kx := hY w _ Y
  obtain ⟨fd, hb, hF⟩ := F w mg fa _ kx G.T.g hmg
  obtain ⟨H, base, hS, kb, nb, e0, back⟩ := script_env (P := l.prog) (w := w) kx G.T.g G.T.b G.T.builtins G.T.nolimit hg hobj hints (Nat.le_trans hlen hn2)
  refine codeAny_mono (hF base kb nb callerA [] s₁ H ⟨[.ref a], []⟩ [.ref a] [.ref a] _ _ rfl hr e0 (hb s₁ (.ref a)) (.cons rfl .nil) (hsp w H a ns hlen hS)) fun r s' h => ?_
  match r, h with
  | .error e, h => exact (show False from h).elim
  | .ok .next, h => exact (show False from h).elim
  | .ok .brk, h => exact (show False from h).elim
  | .ok .cont, h => exact (show False from h).elim
  | .ok (.ret u), h =>
    obtain ⟨v, H', os, bare, un, ok', r', q'⟩ := h
    have q2 : v = .bl true := q'
    subst q2
    obtain rfl : u = Value.bool true := r'
    exact ⟨rfl, back _ _ un ok', os, bare⟩
end K32
end

section
set_option Elab.async false
set_option linter.all false
set_option maxRecDepth 100000
set_option maxHeartbeats 4000000
/-! K32LH: the law. -/
namespace K32
open PySem PySem.Spec PyProof.Rows L2
theorem shown_small : ∀ t ∈ lots 8, (encL t).shown.length ≤ 1000 := by decide +kernel
theorem asc_8 {m : Nat} {t : List Int} (h : Asc m t) (h8 : m ≤ 8) : t ∈ lots 8 := mem_lots.mpr ⟨h.1, fun x hx => ⟨(h.2 x hx).1, by have := (h.2 x hx).2; omega⟩⟩
theorem asc_log {m : Nat} {t : List Int} (h : Asc m t) (h8 : m ≤ 8) : ∀ x ∈ t, x.natAbs.log2 < 1920 := fun x hx => by
  have h1 := h.2 x hx
  have h2 := Nat.log2_le_self x.natAbs
  omega
theorem pick8 {d : Int} (h0 : 0 ≤ d) (h1 : d < 8) : ∃ m : Int, atI [V.int 6, .int 6, .int 6, .int 6, .int 6, .int 6, .int 6, .int 8] d = some (.int m) ∧ (m = 6 ∨ m = 8) := by
  obtain ⟨j, rfl⟩ := Int.eq_ofNat_of_zero_le h0
  match j, h1 with
  | 0, _ => exact ⟨6, atI_nat (j := 0) rfl, .inl rfl⟩
  | 1, _ => exact ⟨6, atI_nat (j := 1) rfl, .inl rfl⟩
  | 2, _ => exact ⟨6, atI_nat (j := 2) rfl, .inl rfl⟩
  | 3, _ => exact ⟨6, atI_nat (j := 3) rfl, .inl rfl⟩
  | 4, _ => exact ⟨6, atI_nat (j := 4) rfl, .inl rfl⟩
  | 5, _ => exact ⟨6, atI_nat (j := 5) rfl, .inl rfl⟩
  | 6, _ => exact ⟨6, atI_nat (j := 6) rfl, .inl rfl⟩
  | 7, _ => exact ⟨8, atI_nat (j := 7) rfl, .inr rfl⟩
  | j + 8, h1 => omega
theorem pick4 {d : Int} (h0 : 0 ≤ d) (h1 : d < 4) : ∃ m : Int, atI [V.int 4, .int 4, .int 4, .int 7] d = some (.int m) ∧ (m = 4 ∨ m = 7) := by
  obtain ⟨j, rfl⟩ := Int.eq_ofNat_of_zero_le h0
  match j, h1 with
  | 0, _ => exact ⟨4, atI_nat (j := 0) rfl, .inl rfl⟩
  | 1, _ => exact ⟨4, atI_nat (j := 1) rfl, .inl rfl⟩
  | 2, _ => exact ⟨4, atI_nat (j := 2) rfl, .inl rfl⟩
  | 3, _ => exact ⟨7, atI_nat (j := 3) rfl, .inr rfl⟩
  | j + 4, h1 => omega
abbrev tLenOf (K : PySem.W.Frag) (i : Nat) : TE := tCB (fun xs H_1 Q => ∃ p ys, xs = [V.ref p] ∧ (SqL K H_1 p ys ∨ SqT K H_1 p ys) ∧ Q (V.int (ys.length : Nat)) H_1) (tCons (tVar i) tNil)
theorem tests_no {K : PySem.W.Frag} {σ : L2.St} {H : Hp} {way : Int} {ta : Addr} {t : List Int} {Q : Bool → Hp → Prop} (e2 : σ[2]? = some (some (.int way))) (e8 : σ[8]? = some (some (.ref ta))) (hta : SqT K H ta (t.map V.int))
    (h1 : 0 < way → t.length ≤ 1) (h2 : way = 1 → t = []) (hQ : Q false H) :
    tOr (tAnd (tTest (tOp (rI0 fun i j => V.bl (decide (j < i))) (tVar 2) (tC (V.int 0)))) (tTest (tOp (rI0 fun i j => V.bl (decide (j < i))) (tLenOf K 8) (tC (V.int 1)))))
      (tAnd (tTest (tOp rEq (tVar 2) (tC (V.int 1)))) (tTest (tOp (rI0 fun i j => V.bl (decide (j < i))) (tLenOf K 8) (tC (V.int 0))))) σ H Q := by
  have third : tAnd (tTest (tOp rEq (tVar 2) (tC (V.int 1)))) (tTest (tOp (rI0 fun i j => V.bl (decide (j < i))) (tLenOf K 8) (tC (V.int 0)))) σ H Q := by
    refine ⟨_, e2, rfl, _, rfl, ?_⟩
    by_cases cw : way = 1
    · refine iteY (decide_eq_true (by rw [cw])) ⟨_, e8, ta, _, rfl, .inr hta, _, _, rfl, rfl, _, rfl, ?_⟩
      rw [h2 cw]
      exact hQ
    · exact iteN (decide_eq_false fun z => cw (V.int.inj z)) hQ
  refine ⟨_, e2, _, _, rfl, rfl, _, rfl, ?_⟩
  by_cases cw : 0 < way
  · refine iteY (decide_eq_true cw) ⟨_, e8, ta, _, rfl, .inr hta, _, _, rfl, rfl, _, rfl, ?_⟩
    have := h1 cw
    have e : decide ((1 : Int) < ((t.map V.int).length : Nat)) = false := decide_eq_false (by rw [List.length_map]; omega)
    show (if decide ((1 : Int) < ((t.map V.int).length : Nat)) = true then _ else _)
    rw [e]
    exact third
  · exact iteN (decide_eq_false cw) (iteF third)
theorem st_to {T : TS} {D : Ends} {σ σ' : L2.St} {H : Hp} (e : σ = σ') (h : T D σ' H) : T D σ H := by
  rw [e]
  exact h
theorem not_hand {H : Hp} {h c L : Addr} (a : HandA H h c) (n : H L = none) : L ≠ h := fun z => by
  obtain ⟨ys, e⟩ := a.lst
  rw [z, e] at n
  cases n
section
variable {P : Program} {w : World} {K : PySem.W.Frag} {mg : Str → Option Value} {base : Heap} {C Cw : Addr}

abbrev st_law : Stmt := topS 61
theorem sc_law : FnScope ["_law_script", "_law_hand_here", "_law_way", "_law_most", "_law_wares", "_law_stalls_here", "_law_web", "_law_due", "_law_told", "_law_left", "_law_along", "_law_k", "_law_ring", "_law_index", "_law_ware"] ["_law_script"] (defScope st_law) := ⟨rfl, rfl, rfl, by decide +kernel, rfl, by decide +kernel, by decide +kernel⟩
def spLaw (K : PySem.W.Frag) : Sp := fun vs H Q _ => ∃ (a : Addr) (ns : List Int), vs = [.ref a] ∧ SqL K H a (ns.map V.int) ∧ ∀ H', Q (.bl true) H'
theorem ok_law {f : Addr} {fd : FuncData} (F : Fun K "law" "law" st_law f fd) (T : Txt K mg C Cw) (c__law_hand : Cal P w K mg base "_law_hand" 1 ["_law_script"] (spHand K)) (c__law_draw : Cal P w K mg base "_law_draw" 1 ["_law_hand_here", "_law_many"] spDraw)
    (c__law_stalls : Cal P w K mg base "_law_stalls" 5 ["_law_hand_here", "_law_wares", "_law_many", "_law_way"] (spLStalls K)) (c__law_fewest : Cal P w K mg base "_law_fewest" 5 ["_law_stalls_here", "_law_wares"] (spLFew K))
    (i_Web : ICal P w K mg base "Web" Cw 6 ["self", "wares", "stalls"] (spInitW K Cw)) (c_fewest_struck : Cal P w K mg base "fewest_struck" 10 ["web"] (spFewest K Cw)) (c_fit : Cal P w K mg base "fit" 10 ["web"] (spFit K Cw))
    (c_uneven_rings : Cal P w K mg base "uneven_rings" 7 ["web"] (spUnevens K Cw)) : GOk P w K mg base 11 f fd ["_law_script"] (spLaw K) := by
  refine gok_of F sc_law (fun vs H Q E h => ?_) (fun cdv A outer s H vs Q E hg hr h => ?_)
  · obtain ⟨a, ns, rfl, _⟩ := h
    rfl
  · obtain ⟨a, ns, rfl, ha, k⟩ := h
    refine ⟨_, (pss_cons (ps_set (i := 1) sc_law.nd rfl (Or.inl rfl) (pe_cal c__law_hand (hr.mono (by decide)) (by rfl) (pa_cons (pv 0) pa_nil)))
        (pss_cons (ps_set (i := 2) sc_law.nd rfl (Or.inl rfl) (pe_cal c__law_draw (hr.mono (by decide)) (by rfl) (pa_cons (pv 1) (pa_cons pe_int pa_nil))))
        (pss_cons (ps_set (i := 3) sc_law.nd rfl (Or.inl rfl) (pe_ix ix_list (pe_lst (pa_cons pe_int (pa_cons pe_int (pa_cons pe_int (pa_cons pe_int (pa_cons pe_int (pa_cons pe_int (pa_cons pe_int (pa_cons pe_int pa_nil))))))))) (pe_cal c__law_draw (hr.mono (by decide)) (by rfl) (pa_cons (pv 1) (pa_cons pe_int pa_nil))) (fun _ _ => rfl)))
        (pss_cons (ps_set (i := 4) sc_law.nd rfl (Or.inl rfl) (pe_op op_add pe_int (pe_cal c__law_draw (hr.mono (by decide)) (by rfl) (pa_cons (pv 1) (pa_cons (pe_ix ix_list (pe_lst (pa_cons pe_int (pa_cons pe_int (pa_cons pe_int (pa_cons pe_int pa_nil))))) (pe_cal c__law_draw (hr.mono (by decide)) (by rfl) (pa_cons (pv 1) (pa_cons pe_int pa_nil))) (fun _ _ => rfl)) pa_nil)))))
        (pss_cons (ps_set (i := 5) sc_law.nd rfl (Or.inr rfl) (pe_cal c__law_stalls (hr.mono (by decide)) (by rfl) (pa_cons (pv 1) (pa_cons (pv 4) (pa_cons (pe_cal c__law_draw (hr.mono (by decide)) (by rfl) (pa_cons (pv 1) (pa_cons (pe_op op_add (pv 3) pe_int) pa_nil))) (pa_cons (pv 2) pa_nil))))))
        (pss_cons (ps_set (i := 6) sc_law.nd rfl (Or.inl rfl) (pe_ical i_Web (hr.mono (by decide)) (by rfl) (pa_cons (pv 4) (pa_cons (pv 5) pa_nil))))
        (pss_cons (ps_set (i := 7) sc_law.nd rfl (Or.inl rfl) (pe_cal c__law_fewest (hr.mono (by decide)) (by rfl) (pa_cons (pv 5) (pa_cons (pv 4) pa_nil))))
        (pss_cons (ps_set (i := 8) sc_law.nd rfl (Or.inr rfl) (pe_cal c_fewest_struck (hr.mono (by decide)) (by rfl) (pa_cons (pv 6) pa_nil)))
        (pss_cons (ps_if (PW.pt (pw_or (pt_cmpR op_ne (pe_callB (call_reprL hg (u62 hr)) (by rfl) T.z_repr (by decide +kernel) (pa_cons (pv 8) pa_nil)) (pe_callB (call_reprL hg (u62 hr)) (by rfl) T.z_repr (by decide +kernel) (pa_cons (pv 7) pa_nil)) (nomark _)) (pw_or1 (pt_cmpR op_ne (pe_cmpR op_eq (pe_callB call_len_seq (by rfl) T.z_len (by decide +kernel) (pa_cons (pv 8) pa_nil)) pe_int (nomark _)) (pe_cmpR op_notN (pe_cal c_fit (hr.mono (by decide)) (by rfl) (pa_cons (pv 6) pa_nil)) pe_non (nomark _)) (nomark _))))) (pss_one (ps_ret pe_bl)) pss_nil)
        (pss_cons (ps_setLc (i := 9) (own := [("_law_k", 11)]) (by rfl) sc_law.nd rfl rfl (sw_true rfl rfl rfl (by decide +kernel)) (pi_range1 (by rfl) T.z_range (pa_cons (pe_callB call_len_seq (by rfl) T.z_len (by decide +kernel) (pa_cons (pv 5) pa_nil)) pa_nil)) (blkOk_by (own := [("_law_k", 11)]) (by kernel_rfl)) (fun _ _ _ _ _ => (pg_name (i := 11) sc_law.nd rfl (Or.inl rfl))) (fun _ _ _ _ _ => pts_one (pt_cmpR (notIn_in (K := K) rfl) (pv 11) (pv 8) (by rfl))) (fun _ _ _ _ _ => (pe_ix (ixL_in (K := K) rfl) (pv 5) (pv 11) (fun _ _ => rfl))))
        (pss_cons (ps_if (PW.pt (pw_or (pt_cmpR op_isN (pe_cal c_fit (hr.mono (by decide)) (by rfl) (pa_cons (pe_ical i_Web (hr.mono (by decide)) (by rfl) (pa_cons (pv 4) (pa_cons (pv 9) pa_nil))) pa_nil)) pe_non (nomark _)) (pw_or (PW.pt (pw_and (pt_cmpR op_gt (pv 2) pe_int (nomark _)) (pw_and1 (pt_cmpR op_gt (pe_callB call_len_seq (by rfl) T.z_len (by decide +kernel) (pa_cons (pv 8) pa_nil)) pe_int (nomark _))))) (pw_or1 (PW.pt (pw_and (pt_cmpR op_eq (pv 2) pe_int (nomark _)) (pw_and1 (pt_cmpR op_gt (pe_callB call_len_seq (by rfl) T.z_len (by decide +kernel) (pa_cons (pv 8) pa_nil)) pe_int (nomark _))))))))) (pss_one (ps_ret pe_bl)) pss_nil)
        (pss_cons (ps_set (i := 10) sc_law.nd rfl (Or.inr rfl) (pe_lc (own := [("_law_ring", 12)]) (by rfl) sc_law.nd (pi_list (pe_cal c_uneven_rings (hr.mono (by decide)) (by rfl) (pa_cons (pv 6) pa_nil))) (blkOk_by (own := [("_law_ring", 12)]) (by kernel_rfl)) (fun _ _ _ _ _ => (pg_name (i := 12) sc_law.nd rfl (Or.inl rfl))) (fun _ _ _ _ _ => pts_nil) (fun _ _ _ _ _ => (pe_lc (own := [("_law_index", 13), ("_law_ware", 14)]) (by rfl) sc_law.nd (tup_in (K := K) rfl (pv 12)) (blkOk_by (own := [("_law_index", 13), ("_law_ware", 14)]) (by kernel_rfl)) (fun _ _ _ _ _ => (tupG_in (n := 2) (K := K) rfl rfl (pgs_cons (pg_name (i := 13) sc_law.nd rfl (Or.inl rfl)) (pgs_cons (pg_name (i := 14) sc_law.nd rfl (Or.inl rfl)) pgs_nil)))) (fun _ _ _ _ _ => pts_nil) (fun _ _ _ _ _ => (pv 13))))))
        (pss_cons (ps_if (pt_not (pt_val (pe_callB (cr_all rfl) (by rfl) T.z_all (by decide +kernel) (pa_cons (pe_lc (own := [("_law_ring", 12)]) (by rfl) sc_law.nd (pi_list (pv 10)) (blkOk_by (own := [("_law_ring", 12)]) (by kernel_rfl)) (fun _ _ _ _ _ => (pg_name (i := 12) sc_law.nd rfl (Or.inr rfl))) (fun _ _ _ _ _ => pts_nil) (fun _ _ _ _ _ => (pe_callB (any_in (K := K) rfl rfl) (by rfl) T.z_any (by decide +kernel) (pa_cons (pe_lc (own := [("_law_k", 11)]) (by rfl) sc_law.nd (tup_in (K := K) rfl (pv 8)) (blkOk_by (own := [("_law_k", 11)]) (by kernel_rfl)) (fun _ _ _ _ _ => (pg_name (i := 11) sc_law.nd rfl (Or.inl rfl))) (fun _ _ _ _ _ => pts_nil) (fun _ _ _ _ _ => (pe_cmpR (inSeq_in (K := K) rfl) (pv 11) (pv 12) (by rfl)))) pa_nil)))) pa_nil)))) (pss_one (ps_ret pe_bl)) pss_nil)
        (pss_one (ps_ret (pe_and (pe_callB (cr_all rfl) (by rfl) T.z_all (by decide +kernel) (pa_cons (pe_lc (own := [("_law_k", 11)]) (by rfl) sc_law.nd (pi_tup (pv 8)) (blkOk_by (own := [("_law_k", 11)]) (by kernel_rfl)) (fun _ _ _ _ _ => (pg_name (i := 11) sc_law.nd rfl (Or.inr rfl))) (fun _ _ _ _ _ => pts_nil) (fun _ _ _ _ _ => (pe_callB (any_in (K := K) rfl rfl) (by rfl) T.z_any (by decide +kernel) (pa_cons (pe_lc (own := [("_law_ring", 12)]) (by rfl) sc_law.nd (list_in (K := K) rfl (pv 10)) (blkOk_by (own := [("_law_ring", 12)]) (by kernel_rfl)) (fun _ _ _ _ _ => (pg_name (i := 12) sc_law.nd rfl (Or.inl rfl))) (fun _ _ _ _ _ => pts_nil) (fun _ _ _ _ _ => (pe_cmpR (inSeq_in (K := K) rfl) (pv 11) (pv 12) (by rfl)))) pa_nil)))) pa_nil)) (pe_one (pe_cmpR (op_eqP (u62 hr)) (pe_cal c_fewest_struck (hr.mono (by decide)) (by rfl) (pa_cons (pv 6) pa_nil)) (pv 8) (nomark _))))))))))))))))))), ?_⟩
    refine ⟨_, rfl, a, ns, rfl, ha, fun h c H1 s1 hH cH hA1 => ?_⟩
    refine ⟨_, rfl, h, c, 3, rfl, hA1, by decide, by decide, fun way H2 w0 w1 hA2 b2 => ?_⟩
    refine ⟨by show 8 ≤ sizeLine; decide, fun L1 hL1 => ?_⟩
    have n1 := not_hand hA2 hL1
    refine ⟨_, rfl, h, c, 8, rfl, hA2.free hL1, by decide, by decide, fun d1 H3 d10 d11 hA3 b3 => ?_⟩
    obtain ⟨most, a1, hmost⟩ := pick8 d10 d11
    refine ⟨L1, _, d1, .int most, rfl, rfl, SqL.of (b3 _ _ n1 upd_same), a1, ?_⟩
    refine ⟨_, rfl, by show 4 ≤ sizeLine; decide, fun LB hLB => ?_⟩
    have n2 := not_hand hA3 hLB
    refine ⟨_, rfl, h, c, 4, rfl, hA3.free hLB, by decide, by decide, fun d2 H4 d20 d21 hA4 b4 => ?_⟩
    obtain ⟨m2, a2, hm2⟩ := pick4 d20 d21
    refine ⟨LB, _, d2, .int m2, rfl, rfl, SqL.of (b4 _ _ n2 upd_same), a2, h, c, m2, rfl, hA4, by omega, by omega, fun d3 H5 d30 d31 hA5 b5 => ⟨_, _, rfl, rfl, ?_⟩⟩
    have hn2 : 2 ≤ 2 + d3 := by omega
    have hn8 : 2 + d3 ≤ 8 := by omega
    refine ⟨_, rfl, _, rfl, _, rfl, _, rfl, _, _, rfl, rfl, h, c, most + 1, rfl, hA5, by omega, by omega, fun many H6 m0 m1 hA6 b6 => ?_⟩
    refine ⟨_, rfl, h, c, 2 + d3, many, way, rfl, hA6, hn2, hn8, m0, by omega, fun l xs S H7 hA7 b7 hl lh ln hst gW fit1 near2 => ?_⟩
    have glen := gW.len
    have hxl := hst.len
    refine ⟨_, rfl, _, rfl, ?_⟩
    refine mkW2 hl hst gW fun wb H8 s8 hweb => ?_
    have hl8 := s8 _ _ hl
    have hst8 := hst.same s8
    refine ⟨_, rfl, _, rfl, l, xs, 2 + d3, S, rfl, hl8, hst8, gW, fun u t H9 s9 hu hf => ?_⟩
    refine ⟨_, rfl, .ref wb, 2 + d3, S, rfl, hweb.same s9, gW, fun v t' H10 s10 hv hf' => ?_⟩
    obtain rfl : t' = t := FirstFit.unique hf' hf
    have hord := order_ok S.length
    have hasc := hf.asc hord
    have s810 := s9.trans s10
    have hu10 := hu.same s10
    have hweb10 := hweb.same s810
    have hl10 := s810 _ _ hl8
    have hst10 := hst8.same s810
    have hsh : (encL t').shown.length ≤ sizeLine := by
      have := shown_small t' (asc_8 hasc glen)
      rw [sizeLine_eq]
      omega
    have hlog := asc_log hasc glen
    obtain ⟨ta, rfl, hta⟩ := id hv
    have htl := asc_len hasc
    clear hl8 hst8 hweb hu
    have hnil := hf.nil_iff hord
    obtain ⟨_, _, _, _, hfitL⟩ := id hf
    refine ⟨_, rfl, t', _, rfl, hv.dp, hlog, hsh, _, rfl, t', u, rfl, hu10.dp, hlog, hsh, rfl, _, rfl, iteN (by simp) ?_⟩
    refine ⟨_, rfl, ta, _, rfl, .inr hta, rfl, _, rfl, .ref wb, 2 + d3, S, rfl, hweb10, gW, fun y H11 s11 hy => ⟨rfl, rfl, _, rfl, ?_⟩⟩
    have e1 : decide (V.int ((t'.map V.int).length : Nat) = V.int 0) = (!decide (y = V.non)) := by
      rcases hy with ⟨rfl, hno⟩ | ⟨l2, rfl, hyes⟩
      · rw [show decide (V.non = V.non) = true from decide_eq_true rfl]
        refine decide_eq_false fun z => hno (hnil.mp ?_)
        have z2 := V.int.inj z
        rw [List.length_map] at z2
        exact List.length_eq_zero_iff.mp (by omega)
      · have e0 : decide (V.ref l2 = V.non) = false := decide_eq_false (fun z => nomatch z)
        rw [e0]
        refine decide_eq_true ?_
        rw [hnil.mpr hyes]
        rfl
    refine iteN (by show (!decide (V.bl (decide (V.int ((t'.map V.int).length : Nat) = V.int 0)) = V.bl (!decide (y = V.non)))) = false; rw [e1]; simp) ?_
    -- what is left
    have hl11 := s11 _ _ hl10
    have hst11 := hst10.same s11
    have hta11 := hta.ext s11
    have hweb11 := hweb10.same s11
    refine ⟨_, rfl, l, xs, rfl, .inl (SqL.of hl11), (S.length : Nat), by rw [hxl], by omega, by omega, fun D hD => ?_⟩
    rw [Int.toNat_natCast]
    refine lc_range (Pv := fun q H' => Same H11 H' ∧ ∃ acc, H' D = some (.lst acc) ∧ StAll K H' acc (leftAt S t' q)) ⟨same_upd hD, [], upd_same, .nil⟩ ?_ ?_
    · rintro q H12 hq ⟨s12, acc, q1, q2⟩
      rw [Int.zero_add]
      refine ⟨rfl, _, rfl, _, rfl, ta, _, rfl, .inr (hta11.ext s12), rfl, by simp [flatV], ?_⟩
      rw [if_pos rfl, inV_int]
      refine ⟨_, rfl, ?_⟩
      by_cases cq : (q : Int) ∈ t'
      · refine iteN (by simp [cq]) ⟨s12, acc, q1, ?_⟩
        rw [leftAt_yes cq]
        exact q2
      · have es : S[q]? = some S[q] := List.getElem?_eq_getElem hq
        obtain ⟨x2, hx2, hst2⟩ := hst11.get' es
        have hk := sqT_lst (K := K) (o2 := .lst (acc ++ [x2])) q1
        have hal := q2.len
        have := leftAt_len S t' q
        refine iteY (by simp [cq]) ⟨_, rfl, _, rfl, l, xs, (q : Int), x2, rfl, rfl, SqL.of (s12 _ _ hl11), atI_nat hx2, acc, q1, small1000 (by omega), Same.mut s12 hD, _, upd_same, ?_⟩
        rw [leftAt_no cq es]
        exact StAll.app (Paired.mapP q2 fun _ _ h => h.keep hk) (.cons ((hst2.same s12).keep hk) .nil)
    rintro H12 ⟨s12, acc, q1, q2⟩
    have hleft : StAll K H12 acc (leftOf S t') := q2
    have hta12 := hta11.ext s12
    have hweb12 := hweb11.same s12
    refine ⟨_, rfl, _, rfl, ?_⟩
    refine mkW2 q1 hleft (left_good gW t') fun wl H13 s13 hwl => ⟨.ref wl, 2 + d3, leftOf S t', rfl, hwl, left_good gW t', fun z H14 s14 hz => ?_⟩
    obtain ⟨l2, rfl, _⟩ : ∃ l, z = .ref l ∧ Fits (leftOf S t') := by
      rcases hz with ⟨_, hno⟩ | hz
      · exact absurd hfitL hno
      · exact hz
    have s1214 := s13.trans s14
    have hta14 := hta12.ext s1214
    have hweb14 := hweb12.same s1214
    refine ⟨rfl, _, rfl, iteF ?_⟩
    have near : 0 < way → t'.length ≤ 1 := fun hw => by
      rcases (show way = 1 ∨ way = 2 by omega) with e | e
      · rw [hnil.mpr (fit1 e)]
        exact Nat.zero_le _
      · exact hf.nearly hord (near2 e)
    refine tests_no rfl rfl hta14 near (fun e => hnil.mpr (fit1 e)) (iteF ?_)
    -- along
    refine next_of ?_
    dsimp only
    refine st_to (σ' := [some (.ref a), some (.ref h), some (.int way), some (.int most), some (.int (2 + d3)), some (.ref l), some (.ref wb), some u, some (.ref ta), some (.ref D), none, none, none, none, none]) rfl ?_
    refine ⟨_, rfl, .ref wb, 2 + d3, S, rfl, hweb14, gW, fun lu vsu Lr H15 s15 hlu hLr hun hall h128 => ⟨lu, rfl, ⟨_, SqL.of hlu⟩, fun D3 hD3 => ?_⟩⟩
    have hul := hLr.len
    have hta15 := hta14.ext s15
    have hweb15 := hweb14.same s15
    refine lc_list (K := K) (xs := vsu) (fun i H' => Same H15 H' ∧ ∃ as : List Addr, H' D3 = some (.lst (as.map V.ref)) ∧ Paired (fun a r => H' a = some (.lst ((edges r).map V.int)) ∧ a ≠ D3) as (Lr.take i)) ⟨same_upd hD3, [], upd_same, .nil⟩ (fun i H' _ h => SqL.of (h.1 _ _ hlu)) ?_ ?_
    · rintro i x H16 hx ⟨s16, as, e2, e3⟩
      obtain ⟨r, hr0, hrw⟩ := hLr.get hx
      obtain ⟨va, pvs, rfl, hva, hpv⟩ := hrw.same s16
      have hpl := pairs_len hpv
      have hrl : r.length ≤ S.length := (hun r (List.mem_of_getElem? hr0)).1.toRing.len
      have hi : i < vsu.length := (List.getElem?_eq_some_iff.mp hx).1
      refine ⟨rfl, yes_if ⟨_, rfl, va, rfl, ⟨_, hva⟩, fun D4 hD4 => ?_⟩⟩
      refine lc_tup (K := K) (xs := pvs) (fun j H' => Same H16 H' ∧ H' D4 = some (.lst ((edges (r.take j)).map V.int))) ⟨same_upd hD4, upd_same⟩ (fun j H' _ h => hva.ext h.1) ?_ ?_
      · rintro j z H17 hz ⟨s17, e4⟩
        obtain ⟨p, hp, hpa⟩ := pairs_get hpv hz
        obtain ⟨pb, rfl, hq⟩ := hpa.same s17
        have hj : j < r.length := (List.getElem?_eq_some_iff.mp hp).1
        refine ⟨pb, _, rfl, hq, rfl, _, _, rfl, _, _, rfl, rfl, rfl, yes_if ?_⟩
        refine ⟨_, rfl, _, e4, ?_, Same.mut s17 hD4, ?_⟩
        · rw [List.length_map, List.length_map, List.length_take]
          exact small1000 (by omega)
        · rw [upd_same, take_snoc hp]
          simp [edges]
      · rintro H17 ⟨s17, e4⟩
        rw [hpl, List.take_of_length_le (Nat.le_refl _)] at e4
        have e5 := s17 _ _ e2
        have hal := Paired.length e3
        rw [List.length_take] at hal
        have n4 : D4 ≠ D3 := fun z => by rw [z, e2] at hD4; cases hD4
        refine ⟨_, e5, by rw [List.length_map]; exact small1000 (by omega), Same.mut (s16.trans s17) hD3, as ++ [D4], by rw [upd_same, List.map_append]; rfl, ?_⟩
        rw [take_snoc hr0]
        refine paired_app (Paired.mapP e3 fun a r h => ⟨by rw [upd_ne h.2]; exact s17 _ _ h.1, h.2⟩) (.cons ⟨?_, n4⟩ .nil)
        rw [upd_ne n4]
        exact e4
    rintro H16 ⟨s16, as, e2, e3⟩
    rw [hul, List.take_of_length_le (Nat.le_refl _)] at e3
    have hal := Paired.length e3
    have hta16 := hta15.ext s16
    have hweb16 := hweb15.same s16
    have e3' : ∀ H', Same H16 H' → ∀ (i : Nat) a, as[i]? = some a → ∃ r, Lr[i]? = some r ∧ H' a = some (.lst ((edges r).map V.int)) := fun H' sH i a ea => by
      obtain ⟨r, hr0, hh, _⟩ := paired_get e3 ea
      exact ⟨r, hr0, sH _ _ hh⟩
    -- each ring is struck
    refine gName_of ?_
    dsimp only
    refine st_to (σ' := [some (.ref a), some (.ref h), some (.int way), some (.int most), some (.int (2 + d3)), some (.ref l), some (.ref wb), some u, some (.ref ta), some (.ref D), some (.ref D3), none, none, none, none]) rfl ?_
    refine ⟨_, rfl, D3, rfl, ⟨_, SqL.of e2⟩, fun D5 hD5 => ?_⟩
    refine lc_list (K := K) (xs := as.map V.ref) (fun i H' => Same H16 H' ∧ H' D5 = some (.lst ((List.replicate i true).map V.bl))) ⟨same_upd hD5, upd_same⟩ (fun i H' _ h => SqL.of (h.1 _ _ e2)) ?_ ?_
    · rintro i x H17 hx ⟨s17, f1⟩
      have hi : i < (as.map V.ref).length := (List.getElem?_eq_some_iff.mp hx).1
      rw [List.length_map] at hi
      rw [List.getElem?_map] at hx
      obtain ⟨ra, hra, rfl⟩ := Option.map_eq_some_iff.mp hx
      obtain ⟨r, hr0, hrr⟩ := e3' H17 s17 i ra hra
      have hta17 := hta16.ext s17
      refine ⟨rfl, yes_if ⟨_, rfl, ta, rfl, ⟨_, hta17⟩, fun D6 hD6 => ?_⟩⟩
      refine lc_tup (K := K) (xs := t'.map V.int) (fun j H' => Same H17 H' ∧ H' D6 = some (.lst (((t'.take j).map fun kk => decide (kk ∈ edges r)).map V.bl))) ⟨same_upd hD6, upd_same⟩ (fun j H' _ h => hta17.ext h.1) ?_ ?_
      · rintro j z H18 hz ⟨s18, f2⟩
        have hj : j < (t'.map V.int).length := (List.getElem?_eq_some_iff.mp hz).1
        rw [List.length_map] at hj
        rw [List.getElem?_map] at hz
        obtain ⟨kk, hkk, rfl⟩ := Option.map_eq_some_iff.mp hz
        refine ⟨rfl, yes_if ⟨_, rfl, _, rfl, ra, _, rfl, .inl (SqL.of (s18 _ _ hrr)), rfl, by simp [flatV], ?_⟩⟩
        rw [if_neg (by decide), inV_int]
        refine ⟨_, f2, ?_, Same.mut s18 hD6, ?_⟩
        · rw [List.length_map, List.length_map, List.length_take]
          exact small1000 (by omega)
        · rw [upd_same, take_snoc hkk, List.map_append, List.map_append]
          rfl
      · rintro H18 ⟨s18, f2⟩
        rw [List.length_map, List.take_of_length_le (Nat.le_refl _)] at f2
        refine ⟨D6, _, rfl, SqL.of f2, ?_⟩
        have eany : ((t'.map fun kk => decide (kk ∈ edges r)).any id) = true := by
          obtain ⟨kk, k1, k2⟩ := hf.cut gW.good (hun r (List.mem_of_getElem? hr0)).1.toRing (hun r (List.mem_of_getElem? hr0)).2
          rw [List.any_eq_true]
          exact ⟨true, List.mem_map.mpr ⟨kk, k1, decide_eq_true k2⟩, rfl⟩
        rw [eany]
        refine ⟨_, s18 _ _ f1, by rw [List.length_map, List.length_replicate]; exact small1000 (by omega), Same.mut (s17.trans s18) hD5, ?_⟩
        rw [upd_same, rep_snoc]
    rintro H17 ⟨s17, f1⟩
    refine ⟨D5, List.replicate (as.map V.ref).length true, rfl, SqL.of f1, ?_⟩
    rw [all_true]
    refine ⟨true, rfl, iteF ?_⟩
    -- each that is struck lies in a ring
    refine next_of ?_
    dsimp only
    refine st_to (σ' := [some (.ref a), some (.ref h), some (.int way), some (.int most), some (.int (2 + d3)), some (.ref l), some (.ref wb), some u, some (.ref ta), some (.ref D), some (.ref D3), none, none, none, none]) rfl ?_
    have hta17 := hta16.ext s17
    have hweb17 := hweb16.same s17
    have g2 := s17 _ _ e2
    refine ⟨_, rfl, ta, rfl, ⟨_, hta17⟩, fun D7 hD7 => ?_⟩
    refine lc_tup (K := K) (xs := t'.map V.int) (fun i H' => Same H17 H' ∧ H' D7 = some (.lst ((List.replicate i true).map V.bl))) ⟨same_upd hD7, upd_same⟩ (fun i H' _ h => hta17.ext h.1) ?_ ?_
    · rintro i x H18 hx ⟨s18, f2⟩
      have hi : i < (t'.map V.int).length := (List.getElem?_eq_some_iff.mp hx).1
      rw [List.length_map] at hi
      rw [List.getElem?_map] at hx
      obtain ⟨kk, hkk, rfl⟩ := Option.map_eq_some_iff.mp hx
      refine ⟨rfl, yes_if ⟨_, rfl, D3, rfl, ⟨_, SqL.of (s18 _ _ g2)⟩, fun D8 hD8 => ?_⟩⟩
      refine lc_list (K := K) (xs := as.map V.ref) (fun j H' => Same H18 H' ∧ H' D8 = some (.lst (((Lr.take j).map fun r => decide (kk ∈ edges r)).map V.bl))) ⟨same_upd hD8, upd_same⟩ (fun j H' _ h => SqL.of ((s18.trans h.1) _ _ g2)) ?_ ?_
      · rintro j z H19 hz ⟨s19, f3⟩
        have hj : j < (as.map V.ref).length := (List.getElem?_eq_some_iff.mp hz).1
        rw [List.length_map] at hj
        rw [List.getElem?_map] at hz
        obtain ⟨ra, hra, rfl⟩ := Option.map_eq_some_iff.mp hz
        obtain ⟨r, hr0, hrr⟩ := e3' H19 ((s17.trans s18).trans s19) j ra hra
        refine ⟨rfl, yes_if ⟨_, rfl, _, rfl, ra, _, rfl, .inl (SqL.of hrr), rfl, by simp [flatV], ?_⟩⟩
        rw [if_neg (by decide), inV_int]
        refine ⟨_, f3, ?_, Same.mut s19 hD8, ?_⟩
        · rw [List.length_map, List.length_map, List.length_take]
          exact small1000 (by omega)
        · rw [upd_same, take_snoc hr0, List.map_append, List.map_append]
          rfl
      · rintro H19 ⟨s19, f3⟩
        rw [List.length_map, hal, List.take_of_length_le (Nat.le_refl _)] at f3
        refine ⟨D8, _, rfl, SqL.of f3, ?_⟩
        have eany : ((Lr.map fun r => decide (kk ∈ edges r)).any id) = true := by
          obtain ⟨r, r1, r2, r3⟩ := hf.in_ring gW.good hord (List.mem_of_getElem? hkk)
          obtain ⟨r', m1, m2⟩ := hall r r1 r2
          rw [List.any_eq_true]
          exact ⟨true, List.mem_map.mpr ⟨r', m1, decide_eq_true ((m2 kk).mpr r3)⟩, rfl⟩
        rw [eany]
        refine ⟨_, s19 _ _ f2, by rw [List.length_map, List.length_replicate]; exact small1000 (by omega), Same.mut (s18.trans s19) hD7, ?_⟩
        rw [upd_same, rep_snoc]
    · rintro H18 ⟨s18, f2⟩
      refine ⟨D7, List.replicate (t'.map V.int).length true, rfl, SqL.of f2, ?_⟩
      rw [all_true]
      refine ⟨true, rfl, iteT ?_⟩
      refine ⟨_, rfl, .ref wb, 2 + d3, S, rfl, hweb17.same s18, gW, fun v3 t3 H19 s19 hv3 hf3 => ?_⟩
      obtain rfl : t3 = t' := FirstFit.unique hf3 hf
      have hv19 : IntsA K H19 (.ref ta) t3 := ⟨ta, rfl, (hta17.ext s18).ext s19⟩
      refine ⟨_, rfl, encL t3, encL t3, hv3.dp, hv19.dp, plain_L _, plain_L _, Nat.le_trans (depth_L _) (by decide), ?_⟩
      rw [eqv_L, decide_eq_true rfl]
      exact k _
end
end K32
end

section
set_option Elab.async false
set_option linter.all false
set_option maxRecDepth 100000
set_option maxHeartbeats 4000000
/-! K32LI: what the top has left, the head. Printed by mkend.py. -/
namespace K32
open PySem PySem.Spec PyProof.Rows L2
/-- a def stands in the written part -/
def FactD (K : PySem.W.Frag) (x : Str) (st : Stmt) : Prop := ∃ (f : Addr) (oc : Value) (od an : Option Addr) (sl : Array (Option Value)) (kV dc pm cd ct : Value), PySem.W.nsIn K mainGlobals x = some (some (.ref f)) ∧
  K.lookup f = some ⟨oc, od, .func (PySem.W.fnOf x x (defArgs st) (defBody st) (defScope st) .none kV dc pm an cd ct), sl⟩ ∧ PySem.W.codeIn K cd x = true ∧ PySem.W.keepIn K (.ref f) = true
theorem factD {K : PySem.W.Frag} {x : Str} {st : Stmt} {f : Addr} {oc : Value} {od an : Option Addr} {sl : Array (Option Value)} {kV dc pm cd ct : Value} (a : PySem.W.nsIn K mainGlobals x = some (some (.ref f)))
    (l : K.lookup f = some ⟨oc, od, .func (PySem.W.fnOf x x (defArgs st) (defBody st) (defScope st) .none kV dc pm an cd ct), sl⟩) (c : PySem.W.codeIn K cd x = true) (k : PySem.W.keepIn K (.ref f) = true) : FactD K x st := ⟨f, oc, od, an, sl, kV, dc, pm, cd, ct, a, l, c, k⟩
/-- a method -/
def FactM (K : PySem.W.Frag) (C : Addr) (m qual : Str) (st : Stmt) : Prop := ∃ (f : Addr) (oc : Value) (od an : Option Addr) (sl : Array (Option Value)) (kV dc pm cd ct : Value), PySem.W.findIn K (.ref C) m = some (some (.ref f)) ∧ PySem.W.isFn K (.ref f) = true ∧
  K.lookup f = some ⟨oc, od, .func (PySem.W.fnOf m qual (defArgs st) (defBody st) (defScope st) .none kV dc pm an cd ct), sl⟩ ∧ PySem.W.codeIn K cd qual = true ∧ PySem.W.keepIn K (.ref f) = true
theorem factM {K : PySem.W.Frag} {C : Addr} {m qual : Str} {st : Stmt} {f : Addr} {oc : Value} {od an : Option Addr} {sl : Array (Option Value)} {kV dc pm cd ct : Value} (a : PySem.W.findIn K (.ref C) m = some (some (.ref f))) (i : PySem.W.isFn K (.ref f) = true)
    (l : K.lookup f = some ⟨oc, od, .func (PySem.W.fnOf m qual (defArgs st) (defBody st) (defScope st) .none kV dc pm an cd ct), sl⟩) (c : PySem.W.codeIn K cd qual = true) (k : PySem.W.keepIn K (.ref f) = true) : FactM K C m qual st := ⟨f, oc, od, an, sl, kV, dc, pm, cd, ct, a, i, l, c, k⟩
def BindN (x qual : Str) (st : Stmt) (ps : List Str) : Prop := ∀ (kV doc pm : Value) (an : Option Addr) (cdv ct : Value) (us : List Value), us.length = ps.length → bindArgs (PySem.W.fnOf x qual (defArgs st) (defBody st) (defScope st) .none kV doc pm an cdv ct) ⟨us, []⟩ = pure (ps.zip us)
section
variable {K : PySem.W.Frag} {h : Heap} {mg : Str → Option Value}
theorem FactD.def_ {x : Str} {st : Stmt} {ps : List Str} (X : K.In h) (G : h.Ns mainGlobals mg) (F : FactD K x st) (hb : BindN x x st ps) : Def K mg x st ps := by
  obtain ⟨f, oc, od, an, sl, kV, dc, pm, cd, ct, a, l, c, k⟩ := F
  have F1 := fun_mk (st := st) l c k
  exact ⟨f, _, F1, PySem.W.mg_of X G a, F1.binds (ps := ps) hb⟩
theorem FactM.def_ {C : Addr} {m qual : Str} {st : Stmt} {ps : List Str} (F : FactM K C m qual st) (hb : BindN m qual st ps) : MDef K C m qual st ps := by
  obtain ⟨f, oc, od, an, sl, kV, dc, pm, cd, ct, a, i, l, c, k⟩ := F
  have F1 := fun_mk (st := st) l c k
  exact ⟨f, _, F1, ⟨a, i, k⟩, F1.binds (ps := ps) hb⟩
theorem FactM.init {C : Addr} {x qual : Str} {st : Stmt} {ps : List Str} (F : FactM K C "__init__" qual st) (hx : mg x = some (.ref C)) (mk : PySem.W.makesIn K C = true) (kc : PySem.W.keepIn K (.ref C) = true) (hb : BindN "__init__" qual st ps) : IDef K mg x C qual st ps := by
  obtain ⟨f, oc, od, an, sl, kV, dc, pm, cd, ct, a, i, l, c, k⟩ := F
  have F1 := fun_mk (st := st) l c k
  exact ⟨f, _, F1, hx, ⟨mk, a, i, kc⟩, F1.binds (ps := ps) hb⟩
end
theorem txt_mk {K : PySem.W.Frag} {h : Heap} {mg : Str → Option Value} {C Cw : Addr} {tw ts tr : Tok} (X : K.In h) (G : h.Ns mainGlobals mg)
    (aC : PySem.W.nsIn K mainGlobals "Exact" = some (some (.ref C))) (aW : PySem.W.nsIn K mainGlobals "Web" = some (some (.ref Cw))) (pgE : PySem.W.plainGet K C Str.empty = true) (hdE : PySem.W.hasDictIn K C = true) (poE : PySem.W.plainOver K C = true) (saE : PySem.W.findIn K (.ref C) "__setattr__" = some (some (.builtin "object.__setattr__"))) (mkE : PySem.W.makesIn K C = true) (kcE : PySem.W.keepIn K (.ref C) = true) (pgW : PySem.W.plainGet K Cw Str.empty = true) (hdW : PySem.W.hasDictIn K Cw = true) (poW : PySem.W.plainOver K Cw = true) (saW : PySem.W.findIn K (.ref Cw) "__setattr__" = some (some (.builtin "object.__setattr__"))) (mkW : PySem.W.makesIn K Cw = true) (kcW : PySem.W.keepIn K (.ref Cw) = true) (nTop : PySem.W.findIn K (.ref C) "top" = some none) (nBot : PySem.W.findIn K (.ref C) "bottom" = some none) (nWar : PySem.W.findIn K (.ref Cw) "wares" = some none) (nSta : PySem.W.findIn K (.ref Cw) "stalls" = some none) (sfE : PySem.W.selfFirst K C = true) (neE : PySem.W.findIn K (.ref C) "__ne__" = some (some (.builtin "object.__ne__"))) (obE : PySem.W.subIn K (.ref C) (.type "object") = some true) (haE : PySem.W.findIn K (.ref C) "__class__" = some (some (.builtin "object.__class__"))) (hnE : PySem.W.specialIn K (.builtin "object.__class__") "__get__" = some (some (.builtin "getset_descriptor.__get__"))) (htE : PySem.W.takesIn K (.builtin "object.__class__") = some true) (hmE : PySem.W.mroIn K C (.type "object") = some true) (mW : PySem.W.nsIn K mainGlobals "MOST_WARES" = some (some (.int 8 tw))) (mS : PySem.W.nsIn K mainGlobals "MOST_STALLS" = some (some (.int 16 ts))) (mR : PySem.W.nsIn K mainGlobals "MOST_RINGS" = some (some (.int 200 tr))) (z_abs : PySem.W.nsIn K mainGlobals "abs" = some none) (z_isinstance : PySem.W.nsIn K mainGlobals "isinstance" = some none) (z_int : PySem.W.nsIn K mainGlobals "int" = some none) (z_bool : PySem.W.nsIn K mainGlobals "bool" = some none) (z_tuple : PySem.W.nsIn K mainGlobals "tuple" = some none) (z_list : PySem.W.nsIn K mainGlobals "list" = some none) (z_len : PySem.W.nsIn K mainGlobals "len" = some none) (z_all : PySem.W.nsIn K mainGlobals "all" = some none) (z_any : PySem.W.nsIn K mainGlobals "any" = some none) (z_range : PySem.W.nsIn K mainGlobals "range" = some none) (z_enumerate : PySem.W.nsIn K mainGlobals "enumerate" = some none) (z_sorted : PySem.W.nsIn K mainGlobals "sorted" = some none) (z_min : PySem.W.nsIn K mainGlobals "min" = some none) (z_zip : PySem.W.nsIn K mainGlobals "zip" = some none) (z_repr : PySem.W.nsIn K mainGlobals "repr" = some none) : Nonempty (Txt K mg C Cw) :=
  ⟨{ tw := tw, ts := ts, tr := tr, clE := ⟨pgE, hdE, poE, saE⟩, clW := ⟨pgW, hdW, poW, saW⟩, nTop := nTop, nBot := nBot, nWar := nWar, nSta := nSta, sfE := sfE, neE := neE, obE := obE, inE := ⟨⟨pgE, hdE, poE, saE⟩, haE, hnE, htE, hmE, if_pos (beq_self_eq_true (Value.ref C))⟩,
     m_Exact := PySem.W.mg_of X G aC, m_MOST_WARES := PySem.W.mg_of X G mW, m_MOST_STALLS := PySem.W.mg_of X G mS, m_MOST_RINGS := PySem.W.mg_of X G mR,
     z_abs := PySem.W.mg_none_of X G z_abs, z_isinstance := PySem.W.mg_none_of X G z_isinstance, z_int := PySem.W.mg_none_of X G z_int, z_bool := PySem.W.mg_none_of X G z_bool, z_tuple := PySem.W.mg_none_of X G z_tuple, z_list := PySem.W.mg_none_of X G z_list, z_len := PySem.W.mg_none_of X G z_len, z_all := PySem.W.mg_none_of X G z_all, z_any := PySem.W.mg_none_of X G z_any, z_range := PySem.W.mg_none_of X G z_range, z_enumerate := PySem.W.mg_none_of X G z_enumerate, z_sorted := PySem.W.mg_none_of X G z_sorted, z_min := PySem.W.mg_none_of X G z_min, z_zip := PySem.W.mg_none_of X G z_zip, z_repr := PySem.W.mg_none_of X G z_repr }⟩
theorem all_mk {P : Program} {w : World} {K : PySem.W.Frag} {h : Heap} {mg : Str → Option Value} {fa C Cw : Addr} (X : K.In h) (G : h.Ns mainGlobals mg) (hfa : mg "law" = some (.ref fa)) (T' : Nonempty (Txt K mg C Cw))
    (aC : PySem.W.nsIn K mainGlobals "Exact" = some (some (.ref C))) (aW : PySem.W.nsIn K mainGlobals "Web" = some (some (.ref Cw))) (mkE : PySem.W.makesIn K C = true) (kcE : PySem.W.keepIn K (.ref C) = true) (mkW : PySem.W.makesIn K Cw = true) (kcW : PySem.W.keepIn K (.ref Cw) = true)
    (d_is_integer : FactD K "is_integer" st_is_integer) (d_common : FactD K "common" st_common) (d_Exact : FactM K C "__init__" "Exact.__init__" st_Exact_init) (d_mul : FactM K C "__mul__" "Exact.__mul__" st_Exact_mul) (d_add : FactM K C "__add__" "Exact.__add__" st_Exact_add) (d_over : FactM K C "over" "Exact.over" st_Exact_over) (d_square : FactM K C "square" "Exact.square" st_Exact_square) (d_pair : FactM K C "pair" "Exact.pair" st_Exact_pair) (d_eq : FactM K C "__eq__" "Exact.__eq__" st_Exact_eq) (d_exact : FactD K "exact" st_exact) (d_is_fraction : FactD K "is_fraction" st_is_fraction) (d_is_some : FactD K "is_some" st_is_some) (d_is_ware_below : FactD K "is_ware_below" st_is_ware_below) (d_is_stall : FactD K "is_stall" st_is_stall) (d_Web : FactM K Cw "__init__" "Web.__init__" st_Web_init) (d_other_ware : FactD K "other_ware" st_other_ware) (d_held_of : FactD K "held_of" st_held_of) (d_root_exact : FactD K "root_exact" st_root_exact) (d_roots_exact : FactD K "roots_exact" st_roots_exact) (d_piece_of : FactD K "piece_of" st_piece_of) (d_pieces : FactD K "pieces" st_pieces) (d_next_scale : FactD K "next_scale" st_next_scale) (d_scales_and_ways : FactD K "scales_and_ways" st_scales_and_ways) (d_uneven_stall : FactD K "uneven_stall" st_uneven_stall) (d_fit_exact : FactD K "fit_exact" st_fit_exact) (d_fit : FactD K "fit" st_fit) (d_is_ring : FactD K "is_ring" st_is_ring) (d_is_uneven_ring : FactD K "is_uneven_ring" st_is_uneven_ring) (d_turned_about : FactD K "turned_about" st_turned_about) (d_least_way : FactD K "least_way" st_least_way) (d_ways_on : FactD K "ways_on" st_ways_on) (d_rings : FactD K "rings" st_rings) (d_uneven_rings : FactD K "uneven_rings" st_uneven_rings) (d_all_tuples : FactD K "all_tuples" st_all_tuples) (d_fewest_struck : FactD K "fewest_struck" st_fewest_struck) (d_law_hand : FactD K "_law_hand" st__law_hand) (d_law_draw : FactD K "_law_draw" st__law_draw) (d_law_gcd : FactD K "_law_gcd" st__law_gcd) (d_law_frac : FactD K "_law_frac" st__law_frac) (d_law_times : FactD K "_law_times" st__law_times) (d_law_over : FactD K "_law_over" st__law_over) (d_law_some : FactD K "_law_some" st__law_some) (d_law_shuffled : FactD K "_law_shuffled" st__law_shuffled) (d_law_stall : FactD K "_law_stall" st__law_stall) (d_law_stalls : FactD K "_law_stalls" st__law_stalls) (d_law_pieces : FactD K "_law_pieces" st__law_pieces) (d_law_fit : FactD K "_law_fit" st__law_fit) (d_law_fewest : FactD K "_law_fewest" st__law_fewest) (d_law : FactD K "law" st_law) :
    ∃ fd : FuncData, (∀ (s : Shared) (v : Value), BindsTo s fd ⟨[v], []⟩ [("_law_script", v)]) ∧ ∀ base : Heap, K.In base → base.Ns mainGlobals mg → GOk P w K mg base 11 fa fd ["_law_script"] (spLaw K) := by
  obtain ⟨T⟩ := T'
  have D_is_integer := FactD.def_ X G d_is_integer (ps := ["thing"]) (fun _ _ _ _ _ _ us hl => match us, hl with | [_], _ => rfl)
  have D_common := FactD.def_ X G d_common (ps := ["one", "other"]) (fun _ _ _ _ _ _ us hl => match us, hl with | [_, _], _ => rfl)
  have D_Exact := FactM.init (x := "Exact") d_Exact (PySem.W.mg_of X G aC) mkE kcE (ps := ["self", "top", "bottom"]) (fun _ _ _ _ _ _ us hl => match us, hl with | [_, _, _], _ => rfl)
  have D_mul := FactM.def_ d_mul (ps := ["self", "other"]) (fun _ _ _ _ _ _ us hl => match us, hl with | [_, _], _ => rfl)
  have D_add := FactM.def_ d_add (ps := ["self", "other"]) (fun _ _ _ _ _ _ us hl => match us, hl with | [_, _], _ => rfl)
  have D_over := FactM.def_ d_over (ps := ["self", "other"]) (fun _ _ _ _ _ _ us hl => match us, hl with | [_, _], _ => rfl)
  have D_square := FactM.def_ d_square (ps := ["self"]) (fun _ _ _ _ _ _ us hl => match us, hl with | [_], _ => rfl)
  have D_pair := FactM.def_ d_pair (ps := ["self"]) (fun _ _ _ _ _ _ us hl => match us, hl with | [_], _ => rfl)
  have D_eq := FactM.def_ d_eq (ps := ["self", "other"]) (fun _ _ _ _ _ _ us hl => match us, hl with | [_, _], _ => rfl)
  have D_exact := FactD.def_ X G d_exact (ps := ["pair"]) (fun _ _ _ _ _ _ us hl => match us, hl with | [_], _ => rfl)
  have D_is_fraction := FactD.def_ X G d_is_fraction (ps := ["thing"]) (fun _ _ _ _ _ _ us hl => match us, hl with | [_], _ => rfl)
  have D_is_some := FactD.def_ X G d_is_some (ps := ["thing"]) (fun _ _ _ _ _ _ us hl => match us, hl with | [_], _ => rfl)
  have D_is_ware_below := FactD.def_ X G d_is_ware_below (ps := ["thing", "wares"]) (fun _ _ _ _ _ _ us hl => match us, hl with | [_, _], _ => rfl)
  have D_is_stall := FactD.def_ X G d_is_stall (ps := ["thing", "wares"]) (fun _ _ _ _ _ _ us hl => match us, hl with | [_, _], _ => rfl)
  have D_Web := FactM.init (x := "Web") d_Web (PySem.W.mg_of X G aW) mkW kcW (ps := ["self", "wares", "stalls"]) (fun _ _ _ _ _ _ us hl => match us, hl with | [_, _, _], _ => rfl)
  have D_other_ware := FactD.def_ X G d_other_ware (ps := ["stall", "ware"]) (fun _ _ _ _ _ _ us hl => match us, hl with | [_, _], _ => rfl)
  have D_held_of := FactD.def_ X G d_held_of (ps := ["stall", "ware"]) (fun _ _ _ _ _ _ us hl => match us, hl with | [_, _], _ => rfl)
  have D_root_exact := FactD.def_ X G d_root_exact (ps := ["stall"]) (fun _ _ _ _ _ _ us hl => match us, hl with | [_], _ => rfl)
  have D_roots_exact := FactD.def_ X G d_roots_exact (ps := ["web"]) (fun _ _ _ _ _ _ us hl => match us, hl with | [_], _ => rfl)
  have D_piece_of := FactD.def_ X G d_piece_of (ps := ["web", "ware"]) (fun _ _ _ _ _ _ us hl => match us, hl with | [_, _], _ => rfl)
  have D_pieces := FactD.def_ X G d_pieces (ps := ["web"]) (fun _ _ _ _ _ _ us hl => match us, hl with | [_], _ => rfl)
  have D_next_scale := FactD.def_ X G d_next_scale (ps := ["stall", "ware", "scale"]) (fun _ _ _ _ _ _ us hl => match us, hl with | [_, _, _], _ => rfl)
  have D_scales_and_ways := FactD.def_ X G d_scales_and_ways (ps := ["web"]) (fun _ _ _ _ _ _ us hl => match us, hl with | [_], _ => rfl)
  have D_uneven_stall := FactD.def_ X G d_uneven_stall (ps := ["web", "found"]) (fun _ _ _ _ _ _ us hl => match us, hl with | [_, _], _ => rfl)
  have D_fit_exact := FactD.def_ X G d_fit_exact (ps := ["web"]) (fun _ _ _ _ _ _ us hl => match us, hl with | [_], _ => rfl)
  have D_fit := FactD.def_ X G d_fit (ps := ["web"]) (fun _ _ _ _ _ _ us hl => match us, hl with | [_], _ => rfl)
  have D_is_ring := FactD.def_ X G d_is_ring (ps := ["web", "thing"]) (fun _ _ _ _ _ _ us hl => match us, hl with | [_, _], _ => rfl)
  have D_is_uneven_ring := FactD.def_ X G d_is_uneven_ring (ps := ["web", "thing"]) (fun _ _ _ _ _ _ us hl => match us, hl with | [_, _], _ => rfl)
  have D_turned_about := FactD.def_ X G d_turned_about (ps := ["web", "ring"]) (fun _ _ _ _ _ _ us hl => match us, hl with | [_, _], _ => rfl)
  have D_least_way := FactD.def_ X G d_least_way (ps := ["web", "ring"]) (fun _ _ _ _ _ _ us hl => match us, hl with | [_, _], _ => rfl)
  have D_ways_on := FactD.def_ X G d_ways_on (ps := ["web", "way", "here"]) (fun _ _ _ _ _ _ us hl => match us, hl with | [_, _, _], _ => rfl)
  have D_rings := FactD.def_ X G d_rings (ps := ["web"]) (fun _ _ _ _ _ _ us hl => match us, hl with | [_], _ => rfl)
  have D_uneven_rings := FactD.def_ X G d_uneven_rings (ps := ["web"]) (fun _ _ _ _ _ _ us hl => match us, hl with | [_], _ => rfl)
  have D_all_tuples := FactD.def_ X G d_all_tuples (ps := ["many"]) (fun _ _ _ _ _ _ us hl => match us, hl with | [_], _ => rfl)
  have D_fewest_struck := FactD.def_ X G d_fewest_struck (ps := ["web"]) (fun _ _ _ _ _ _ us hl => match us, hl with | [_], _ => rfl)
  have D_law_hand := FactD.def_ X G d_law_hand (ps := ["_law_script"]) (fun _ _ _ _ _ _ us hl => match us, hl with | [_], _ => rfl)
  have D_law_draw := FactD.def_ X G d_law_draw (ps := ["_law_hand_here", "_law_many"]) (fun _ _ _ _ _ _ us hl => match us, hl with | [_, _], _ => rfl)
  have D_law_gcd := FactD.def_ X G d_law_gcd (ps := ["_law_one", "_law_other"]) (fun _ _ _ _ _ _ us hl => match us, hl with | [_, _], _ => rfl)
  have D_law_frac := FactD.def_ X G d_law_frac (ps := ["_law_top", "_law_bottom"]) (fun _ _ _ _ _ _ us hl => match us, hl with | [_, _], _ => rfl)
  have D_law_times := FactD.def_ X G d_law_times (ps := ["_law_one", "_law_other"]) (fun _ _ _ _ _ _ us hl => match us, hl with | [_, _], _ => rfl)
  have D_law_over := FactD.def_ X G d_law_over (ps := ["_law_one", "_law_other"]) (fun _ _ _ _ _ _ us hl => match us, hl with | [_, _], _ => rfl)
  have D_law_some := FactD.def_ X G d_law_some (ps := ["_law_hand_here"]) (fun _ _ _ _ _ _ us hl => match us, hl with | [_], _ => rfl)
  have D_law_shuffled := FactD.def_ X G d_law_shuffled (ps := ["_law_hand_here", "_law_things"]) (fun _ _ _ _ _ _ us hl => match us, hl with | [_, _], _ => rfl)
  have D_law_stall := FactD.def_ X G d_law_stall (ps := ["_law_hand_here", "_law_one", "_law_other", "_law_quotient"]) (fun _ _ _ _ _ _ us hl => match us, hl with | [_, _, _, _], _ => rfl)
  have D_law_stalls := FactD.def_ X G d_law_stalls (ps := ["_law_hand_here", "_law_wares", "_law_many", "_law_way"]) (fun _ _ _ _ _ _ us hl => match us, hl with | [_, _, _, _], _ => rfl)
  have D_law_pieces := FactD.def_ X G d_law_pieces (ps := ["_law_stalls_here", "_law_wares"]) (fun _ _ _ _ _ _ us hl => match us, hl with | [_, _], _ => rfl)
  have D_law_fit := FactD.def_ X G d_law_fit (ps := ["_law_stalls_here", "_law_wares"]) (fun _ _ _ _ _ _ us hl => match us, hl with | [_, _], _ => rfl)
  have D_law_fewest := FactD.def_ X G d_law_fewest (ps := ["_law_stalls_here", "_law_wares"]) (fun _ _ _ _ _ _ us hl => match us, hl with | [_, _], _ => rfl)
  obtain ⟨f, oc, od, an, sl, kV, dc, pm, cd, ct, a, l, c, k⟩ := d_law
  have e := hfa.symm.trans (PySem.W.mg_of X G a)
  cases e
  refine ⟨PySem.W.fnOf "law" "law" (defArgs st_law) (defBody st_law) (defScope st_law) .none kV dc pm an cd ct, fun s v => .of_eq rfl, fun base _ _ => ?_⟩
  have c_is_integer := ok_is_integer (P := P) (w := w) (base := base) D_is_integer T
  have c_common := ok_common (P := P) (w := w) (base := base) D_common T
  have i_Exact := ok_Exact (P := P) (w := w) (base := base) D_Exact T c_common
  have m_mul := ok_mul (P := P) (w := w) (base := base) D_mul T i_Exact
  have m_add := ok_add (P := P) (w := w) (base := base) D_add T i_Exact
  have m_over := ok_over (P := P) (w := w) (base := base) D_over T i_Exact
  have m_square := ok_square (P := P) (w := w) (base := base) D_square T i_Exact
  have m_pair := ok_pair (P := P) (w := w) (base := base) D_pair T
  have m_eq := ok_eq (P := P) (w := w) (base := base) D_eq T
  have c_exact := ok_exact (P := P) (w := w) (base := base) D_exact T i_Exact
  have c_is_fraction := ok_is_fraction (P := P) (w := w) (base := base) D_is_fraction T c_is_integer c_common
  have c_is_some := ok_is_some (P := P) (w := w) (base := base) D_is_some T c_is_fraction
  have c_is_ware_below := ok_is_ware_below (P := P) (w := w) (base := base) D_is_ware_below T c_is_integer
  have c_is_stall := ok_is_stall (P := P) (w := w) (base := base) D_is_stall T c_is_ware_below c_is_some c_exact m_mul m_square m_eq
  have i_Web := ok_Web (P := P) (w := w) (base := base) D_Web T c_is_integer c_is_stall
  have c_other_ware := ok_other_ware (P := P) (w := w) (base := base) D_other_ware T
  have c_held_of := ok_held_of (P := P) (w := w) (base := base) D_held_of T c_exact
  have c_root_exact := ok_root_exact (P := P) (w := w) (base := base) D_root_exact T c_exact
  have c_roots_exact := ok_roots_exact (P := P) (w := w) (base := base) D_roots_exact T c_exact i_Exact m_add
  have c_piece_of := ok_piece_of (P := P) (w := w) (base := base) D_piece_of T c_roots_exact
  have c_pieces := ok_pieces (P := P) (w := w) (base := base) D_pieces T c_piece_of
  have c_next_scale := ok_next_scale (P := P) (w := w) (base := base) D_next_scale T c_held_of c_root_exact m_mul m_over
  have c_scales_and_ways := ok_scales_and_ways (P := P) (w := w) (base := base) D_scales_and_ways T c_pieces c_other_ware c_next_scale i_Exact
  have c_uneven_stall := ok_uneven_stall (P := P) (w := w) (base := base) D_uneven_stall T c_next_scale m_eq
  have c_fit_exact := ok_fit_exact (P := P) (w := w) (base := base) D_fit_exact T c_scales_and_ways c_uneven_stall
  have c_fit := ok_fit (P := P) (w := w) (base := base) D_fit T c_fit_exact m_pair
  have c_is_ring := ok_is_ring (P := P) (w := w) (base := base) D_is_ring T c_is_integer c_is_ware_below c_other_ware
  have c_is_uneven_ring := ok_is_uneven_ring (P := P) (w := w) (base := base) D_is_uneven_ring T c_is_ring c_other_ware c_held_of i_Exact m_mul m_eq
  have c_turned_about := ok_turned_about (P := P) (w := w) (base := base) D_turned_about T c_other_ware
  have c_least_way := ok_least_way (P := P) (w := w) (base := base) D_least_way T c_turned_about
  have c_ways_on := ok_ways_on (P := P) (w := w) (base := base) D_ways_on T c_other_ware
  have c_rings := ok_rings (P := P) (w := w) (base := base) D_rings T c_ways_on c_least_way
  have c_uneven_rings := ok_uneven_rings (P := P) (w := w) (base := base) D_uneven_rings T c_rings c_is_uneven_ring
  have c_all_tuples := ok_all_tuples (P := P) (w := w) (base := base) D_all_tuples T
  have c_fewest_struck := ok_fewest_struck (P := P) (w := w) (base := base) D_fewest_struck T c_all_tuples c_fit_exact i_Web
  have c__law_hand := ok_law_hand (P := P) (w := w) (base := base) D_law_hand T
  have c__law_draw := ok_law_draw (P := P) (w := w) (base := base) D_law_draw T
  have c__law_gcd := ok_law_gcd (P := P) (w := w) (base := base) D_law_gcd T
  have c__law_frac := ok_law_frac (P := P) (w := w) (base := base) D_law_frac T c__law_gcd
  have c__law_times := ok_law_times (P := P) (w := w) (base := base) D_law_times T c__law_frac
  have c__law_over := ok_law_over (P := P) (w := w) (base := base) D_law_over T c__law_frac
  have c__law_some := ok_law_some (P := P) (w := w) (base := base) D_law_some T c__law_frac c__law_draw
  have c__law_shuffled := ok_law_shuffled (P := P) (w := w) (base := base) D_law_shuffled T c__law_draw
  have c__law_stall := ok_law_stall (P := P) (w := w) (base := base) D_law_stall T c__law_some c__law_times c__law_over
  have c__law_stalls := ok_law_stalls (P := P) (w := w) (base := base) D_law_stalls T c__law_draw c__law_some c__law_over c__law_stall c__law_shuffled
  have c__law_pieces := ok_law_pieces (P := P) (w := w) (base := base) D_law_pieces T
  have c__law_fit := ok_law_fit (P := P) (w := w) (base := base) D_law_fit T c__law_pieces c__law_times c__law_over
  have c__law_fewest := ok_law_fewest (P := P) (w := w) (base := base) D_law_fewest T c__law_fit
  exact ok_law (fun_mk (st := st_law) l c k) T c__law_hand c__law_draw c__law_stalls c__law_fewest i_Web c_fewest_struck c_fit c_uneven_rings
end K32
open PySem PySem.W PyProof.Rows
set_option maxHeartbeats 0 in
theorem PySem.Challenge.cw_rootstalls_k32_whole_fewest_stalls_struc_holds : PySem.Challenge.rw_rootstalls_k32_whole_fewest_stalls_struc.Holds := by
  w_on; o_law; k_head; (case hw => w_witness2)
  k_fill
  refine K32.walk_g (l := PySem.Challenge.rw_rootstalls_k32_whole_fewest_stalls_struc) (n := 63) (k := 11) (x := "_law_script") (sp := fun w => K32.spLaw _) rfl (by decide) rfl ⟨rfl, by decide, by decide⟩ (fun w h Y => PySem.W.kIn_of Y) ?F (fun _ _ a ns hl hS => ⟨a, ns, rfl, hS, fun _ => rfl⟩)
  case F =>
    intro w mg fa h KX G hmg
    refine' K32.all_mk KX G hmg ?T ?aC ?aW ?mkE ?kcE ?mkW ?kcW ?d_is_integer ?d_common ?d_Exact ?d_mul ?d_add ?d_over ?d_square ?d_pair ?d_eq ?d_exact ?d_is_fraction ?d_is_some ?d_is_ware_below ?d_is_stall ?d_Web ?d_other_ware ?d_held_of ?d_root_exact ?d_roots_exact ?d_piece_of ?d_pieces ?d_next_scale ?d_scales_and_ways ?d_uneven_stall ?d_fit_exact ?d_fit ?d_is_ring ?d_is_uneven_ring ?d_turned_about ?d_least_way ?d_ways_on ?d_rings ?d_uneven_rings ?d_all_tuples ?d_fewest_struck ?d_law_hand ?d_law_draw ?d_law_gcd ?d_law_frac ?d_law_times ?d_law_over ?d_law_some ?d_law_shuffled ?d_law_stall ?d_law_stalls ?d_law_pieces ?d_law_fit ?d_law_fewest ?d_law
    (case aC => k_is); (case aW => k_is); (case mkE => k_is); (case kcE => k_is); (case mkW => k_is); (case kcW => k_is)
    case T =>
      refine' K32.txt_mk KX G ?aC ?aW ?pgE ?hdE ?poE ?saE ?mkE ?kcE ?pgW ?hdW ?poW ?saW ?mkW ?kcW ?nTop ?nBot ?nWar ?nSta ?sfE ?neE ?obE ?haE ?hnE ?htE ?hmE ?mW ?mS ?mR ?z_abs ?z_isinstance ?z_int ?z_bool ?z_tuple ?z_list ?z_len ?z_all ?z_any ?z_range ?z_enumerate ?z_sorted ?z_min ?z_zip ?z_repr
      (case aC => k_is)
      (case aW => k_is)
      (case pgE => k_is)
      (case hdE => k_is)
      (case poE => k_is)
      (case saE => k_is)
      (case mkE => k_is)
      (case kcE => k_is)
      (case pgW => k_is)
      (case hdW => k_is)
      (case poW => k_is)
      (case saW => k_is)
      (case mkW => k_is)
      (case kcW => k_is)
      (case nTop => k_is)
      (case nBot => k_is)
      (case nWar => k_is)
      (case nSta => k_is)
      (case sfE => k_is)
      (case neE => k_is)
      (case obE => k_is)
      (case haE => k_is)
      (case hnE => k_is)
      (case htE => k_is)
      (case hmE => k_is)
      (case mW => k_is)
      (case mS => k_is)
      (case mR => k_is)
      (case z_abs => k_is)
      (case z_isinstance => k_is)
      (case z_int => k_is)
      (case z_bool => k_is)
      (case z_tuple => k_is)
      (case z_list => k_is)
      (case z_len => k_is)
      (case z_all => k_is)
      (case z_any => k_is)
      (case z_range => k_is)
      (case z_enumerate => k_is)
      (case z_sorted => k_is)
      (case z_min => k_is)
      (case z_zip => k_is)
      (case z_repr => k_is)
    case d_is_integer =>
      refine' K32.factD ?a ?l ?c ?k
      (case a => k_is); (case l => k_is); (case c => k_is); (case k => k_is)
    case d_common =>
      refine' K32.factD ?a ?l ?c ?k
      (case a => k_is); (case l => k_is); (case c => k_is); (case k => k_is)
    case d_Exact =>
      refine' K32.factM ?a ?i ?l ?c ?k
      (case a => k_is); (case i => k_is); (case l => k_is); (case c => k_is); (case k => k_is)
    case d_mul =>
      refine' K32.factM ?a ?i ?l ?c ?k
      (case a => k_is); (case i => k_is); (case l => k_is); (case c => k_is); (case k => k_is)
    case d_add =>
      refine' K32.factM ?a ?i ?l ?c ?k
      (case a => k_is); (case i => k_is); (case l => k_is); (case c => k_is); (case k => k_is)
    case d_over =>
      refine' K32.factM ?a ?i ?l ?c ?k
      (case a => k_is); (case i => k_is); (case l => k_is); (case c => k_is); (case k => k_is)
    case d_square =>
      refine' K32.factM ?a ?i ?l ?c ?k
      (case a => k_is); (case i => k_is); (case l => k_is); (case c => k_is); (case k => k_is)
    case d_pair =>
      refine' K32.factM ?a ?i ?l ?c ?k
      (case a => k_is); (case i => k_is); (case l => k_is); (case c => k_is); (case k => k_is)
    case d_eq =>
      refine' K32.factM ?a ?i ?l ?c ?k
      (case a => k_is); (case i => k_is); (case l => k_is); (case c => k_is); (case k => k_is)
    case d_exact =>
      refine' K32.factD ?a ?l ?c ?k
      (case a => k_is); (case l => k_is); (case c => k_is); (case k => k_is)
    case d_is_fraction =>
      refine' K32.factD ?a ?l ?c ?k
      (case a => k_is); (case l => k_is); (case c => k_is); (case k => k_is)
    case d_is_some =>
      refine' K32.factD ?a ?l ?c ?k
      (case a => k_is); (case l => k_is); (case c => k_is); (case k => k_is)
    case d_is_ware_below =>
      refine' K32.factD ?a ?l ?c ?k
      (case a => k_is); (case l => k_is); (case c => k_is); (case k => k_is)
    case d_is_stall =>
      refine' K32.factD ?a ?l ?c ?k
      (case a => k_is); (case l => k_is); (case c => k_is); (case k => k_is)
    case d_Web =>
      refine' K32.factM ?a ?i ?l ?c ?k
      (case a => k_is); (case i => k_is); (case l => k_is); (case c => k_is); (case k => k_is)
    case d_other_ware =>
      refine' K32.factD ?a ?l ?c ?k
      (case a => k_is); (case l => k_is); (case c => k_is); (case k => k_is)
    case d_held_of =>
      refine' K32.factD ?a ?l ?c ?k
      (case a => k_is); (case l => k_is); (case c => k_is); (case k => k_is)
    case d_root_exact =>
      refine' K32.factD ?a ?l ?c ?k
      (case a => k_is); (case l => k_is); (case c => k_is); (case k => k_is)
    case d_roots_exact =>
      refine' K32.factD ?a ?l ?c ?k
      (case a => k_is); (case l => k_is); (case c => k_is); (case k => k_is)
    case d_piece_of =>
      refine' K32.factD ?a ?l ?c ?k
      (case a => k_is); (case l => k_is); (case c => k_is); (case k => k_is)
    case d_pieces =>
      refine' K32.factD ?a ?l ?c ?k
      (case a => k_is); (case l => k_is); (case c => k_is); (case k => k_is)
    case d_next_scale =>
      refine' K32.factD ?a ?l ?c ?k
      (case a => k_is); (case l => k_is); (case c => k_is); (case k => k_is)
    case d_scales_and_ways =>
      refine' K32.factD ?a ?l ?c ?k
      (case a => k_is); (case l => k_is); (case c => k_is); (case k => k_is)
    case d_uneven_stall =>
      refine' K32.factD ?a ?l ?c ?k
      (case a => k_is); (case l => k_is); (case c => k_is); (case k => k_is)
    case d_fit_exact =>
      refine' K32.factD ?a ?l ?c ?k
      (case a => k_is); (case l => k_is); (case c => k_is); (case k => k_is)
    case d_fit =>
      refine' K32.factD ?a ?l ?c ?k
      (case a => k_is); (case l => k_is); (case c => k_is); (case k => k_is)
    case d_is_ring =>
      refine' K32.factD ?a ?l ?c ?k
      (case a => k_is); (case l => k_is); (case c => k_is); (case k => k_is)
    case d_is_uneven_ring =>
      refine' K32.factD ?a ?l ?c ?k
      (case a => k_is); (case l => k_is); (case c => k_is); (case k => k_is)
    case d_turned_about =>
      refine' K32.factD ?a ?l ?c ?k
      (case a => k_is); (case l => k_is); (case c => k_is); (case k => k_is)
    case d_least_way =>
      refine' K32.factD ?a ?l ?c ?k
      (case a => k_is); (case l => k_is); (case c => k_is); (case k => k_is)
    case d_ways_on =>
      refine' K32.factD ?a ?l ?c ?k
      (case a => k_is); (case l => k_is); (case c => k_is); (case k => k_is)
    case d_rings =>
      refine' K32.factD ?a ?l ?c ?k
      (case a => k_is); (case l => k_is); (case c => k_is); (case k => k_is)
    case d_uneven_rings =>
      refine' K32.factD ?a ?l ?c ?k
      (case a => k_is); (case l => k_is); (case c => k_is); (case k => k_is)
    case d_all_tuples =>
      refine' K32.factD ?a ?l ?c ?k
      (case a => k_is); (case l => k_is); (case c => k_is); (case k => k_is)
    case d_fewest_struck =>
      refine' K32.factD ?a ?l ?c ?k
      (case a => k_is); (case l => k_is); (case c => k_is); (case k => k_is)
    case d_law_hand =>
      refine' K32.factD ?a ?l ?c ?k
      (case a => k_is); (case l => k_is); (case c => k_is); (case k => k_is)
    case d_law_draw =>
      refine' K32.factD ?a ?l ?c ?k
      (case a => k_is); (case l => k_is); (case c => k_is); (case k => k_is)
    case d_law_gcd =>
      refine' K32.factD ?a ?l ?c ?k
      (case a => k_is); (case l => k_is); (case c => k_is); (case k => k_is)
    case d_law_frac =>
      refine' K32.factD ?a ?l ?c ?k
      (case a => k_is); (case l => k_is); (case c => k_is); (case k => k_is)
    case d_law_times =>
      refine' K32.factD ?a ?l ?c ?k
      (case a => k_is); (case l => k_is); (case c => k_is); (case k => k_is)
    case d_law_over =>
      refine' K32.factD ?a ?l ?c ?k
      (case a => k_is); (case l => k_is); (case c => k_is); (case k => k_is)
    case d_law_some =>
      refine' K32.factD ?a ?l ?c ?k
      (case a => k_is); (case l => k_is); (case c => k_is); (case k => k_is)
    case d_law_shuffled =>
      refine' K32.factD ?a ?l ?c ?k
      (case a => k_is); (case l => k_is); (case c => k_is); (case k => k_is)
    case d_law_stall =>
      refine' K32.factD ?a ?l ?c ?k
      (case a => k_is); (case l => k_is); (case c => k_is); (case k => k_is)
    case d_law_stalls =>
      refine' K32.factD ?a ?l ?c ?k
      (case a => k_is); (case l => k_is); (case c => k_is); (case k => k_is)
    case d_law_pieces =>
      refine' K32.factD ?a ?l ?c ?k
      (case a => k_is); (case l => k_is); (case c => k_is); (case k => k_is)
    case d_law_fit =>
      refine' K32.factD ?a ?l ?c ?k
      (case a => k_is); (case l => k_is); (case c => k_is); (case k => k_is)
    case d_law_fewest =>
      refine' K32.factD ?a ?l ?c ?k
      (case a => k_is); (case l => k_is); (case c => k_is); (case k => k_is)
    case d_law =>
      refine' K32.factD ?a ?l ?c ?k
      (case a => k_is); (case l => k_is); (case c => k_is); (case k => k_is)
end
