import PyProof.Rows.All
import Wide.All
import OpenK.AllK
import Wide.FinOn
import HandS.ForMost
import HandS.Conv
import KE.SortData
import KE.DataMinMax
import KE.KDictSum
import KE.KDictItemsList
import PyProof.ReprRoads
import KE.KDictCopyH
import KE.KDictPairs
import KE.KDictDisplayH
import KE.KDictWalk
import HandS.SetKeys
import HandS.DictComp
import HandS.Walk
import KE.KStateDown
import Lean
import HandS.Defaults
import HandS.IsInst
import HandS.HeadHook1
import HandS.HeadHook2
import HandS.HeadHook3
import HandS.HeadHook4
import PySem.Challenge.RW_wetmarks_k56_whole_webs_put_behind_one_a
import HandS.Head0
import HandS.Head1
import HandS.Head2
import HandS.HeadEnd
import HandS.WideBits
import HandS.Wide
import PyProof.ZipIter
import HandS.Zip
import KE.KeyNested
import PyProof.Rows.TupTab
import HandS.TupSets
import PyProof.ReprLen
import HandS.Ends
import PyProof.P3Eq
section
set_option linter.all false
/-! The plain mathematics: walks, least moments, spans, rows. No program in sight. -/
namespace WmM
section
variable {F : Type}
/-- walks of so many touches -/
def Walk (adj : F → F → Prop) : Nat → F → F → Prop
  | 0, f, x => f = x
  | n + 1, f, x => ∃ y, Walk adj n f y ∧ adj y x
theorem walk_add {adj : F → F → Prop} (a : Nat) : ∀ (b : Nat) (f x : F), Walk adj (a + b) f x ↔ ∃ y, Walk adj a f y ∧ Walk adj b y x
  | 0, f, x => ⟨fun h => ⟨x, h, rfl⟩, fun ⟨y, h, e⟩ => by have e' : y = x := e; rw [← e']; exact h⟩
  | b + 1, f, x => by
    constructor
    · rintro ⟨z, h, e⟩
      obtain ⟨y, h1, h2⟩ := (walk_add a b f z).mp h
      exact ⟨y, h1, z, h2, e⟩
    · rintro ⟨y, h1, z, h2, e⟩
      exact ⟨z, (walk_add a b f z).mpr ⟨y, h1, h2⟩, e⟩
/-- by how many touches, as few as can be -/
def Dist (adj : F → F → Prop) (f x : F) (n : Nat) : Prop := Walk adj n f x ∧ ∀ m, Walk adj m f x → n ≤ m
theorem walk_dist {adj : F → F → Prop} {f x : F} : ∀ {n : Nat}, Walk adj n f x → ∃ m, m ≤ n ∧ Dist adj f x m := by
  intro n
  induction n using Nat.strongRecOn with
  | ind n ih =>
    intro h
    by_cases q : ∃ m, m < n ∧ Walk adj m f x
    · obtain ⟨m, hm, hw⟩ := q
      obtain ⟨k, hk, hd⟩ := ih m hm hw
      exact ⟨k, Nat.le_trans hk (Nat.le_of_lt hm), hd⟩
    · refine ⟨n, Nat.le_refl _, h, fun m hm => ?_⟩
      rcases Nat.lt_or_ge m n with z | z
      · exact absurd ⟨m, z, hm⟩ q
      · exact z
theorem dist_uniq {adj : F → F → Prop} {f x : F} {n m : Nat} (h : Dist adj f x n) (k : Dist adj f x m) : n = m := Nat.le_antisymm (h.2 m k.1) (k.2 n h.1)
theorem dist_zero {adj : F → F → Prop} {f x : F} : Dist adj f x 0 ↔ f = x := ⟨fun h => h.1, fun h => ⟨h, fun _ _ => Nat.zero_le _⟩⟩
theorem dist_self {adj : F → F → Prop} (f : F) : Dist adj f f 0 := dist_zero.mpr rfl
theorem dist_pred {adj : F → F → Prop} {f x : F} {n : Nat} (h : Dist adj f x (n + 1)) : ∃ y, Dist adj f y n ∧ adj y x := by
  obtain ⟨⟨y, h1, h2⟩, h3⟩ := h
  refine ⟨y, ⟨h1, fun m hm => ?_⟩, h2⟩
  have := h3 (m + 1) ⟨y, hm, h2⟩
  omega
theorem dist_le_succ {adj : F → F → Prop} {f x y : F} {n : Nat} (h : Dist adj f y n) (a : adj y x) : ∃ m, m ≤ n + 1 ∧ Dist adj f x m := walk_dist (n := n + 1) ⟨y, h.1, a⟩

/-- the least number of which C is true, if there is one -/
def Least (C : Int → Prop) (o : Option Int) : Prop := (∀ c, C c → ∃ u, o = some u ∧ u ≤ c) ∧ ∀ u, o = some u → C u
theorem least_of {C : Int → Prop} {o : Option Int} (h1 : ∀ c, C c → ∃ u, o = some u ∧ u ≤ c) (h2 : ∀ u, o = some u → ∃ c, C c ∧ c ≤ u) : Least C o := by
  refine ⟨h1, fun u e => ?_⟩
  obtain ⟨c, hc, hl⟩ := h2 u e
  obtain ⟨u', e', hl'⟩ := h1 c hc
  rw [e] at e'
  have : u = u' := Option.some.inj e'
  have : c = u := by omega
  rw [← this]
  exact hc
theorem least_uniq {C : Int → Prop} {o p : Option Int} (h : Least C o) (k : Least C p) : o = p := by
  cases o with
  | none =>
    cases p with
    | none => rfl
    | some v =>
      obtain ⟨u, e, _⟩ := h.1 v (k.2 v rfl)
      cases e
  | some u =>
    obtain ⟨v, e, hl⟩ := k.1 u (h.2 u rfl)
    subst e
    obtain ⟨u', e, hl'⟩ := h.1 v (k.2 v rfl)
    cases e
    have : u = v := by omega
    rw [this]
theorem least_congr {C D : Int → Prop} (e : ∀ c, C c ↔ D c) {o : Option Int} (h : Least C o) : Least D o := ⟨fun c hc => h.1 c ((e c).mpr hc), fun u hu => (e u).mp (h.2 u hu)⟩

/-- the moments that a face may have behind a span -/
def Cand (adj : F → F → Prop) (low last : Int) (K : F → Option Int) (x : F) (v : Int) : Prop :=
  K x = some v ∨ ∃ (f : F) (m : Int) (n : Nat), K f = some m ∧ max m low < last ∧ Walk adj n f x ∧ v = max m low + n ∧ v ≤ last
def Step (adj : F → F → Prop) (low last : Int) (K R : F → Option Int) : Prop := ∀ x, Least (Cand adj low last K x) (R x)
def Bd (K : F → Option Int) (b : Int) : Prop := ∀ x v, K x = some v → v ≤ b
theorem step_uniq {adj : F → F → Prop} {low last : Int} {K R R' : F → Option Int} (h : Step adj low last K R) (k : Step adj low last K R') : R = R' := funext fun x => least_uniq (h x) (k x)
theorem step_bd {adj : F → F → Prop} {low last b : Int} {K R : F → Option Int} (hK : Bd K low) (h : Step adj low last K R) (h1 : low ≤ b) (h2 : last ≤ b) : Bd R b := fun x v e => by
  rcases (h x).2 v e with q | ⟨_, _, _, _, _, _, _, q⟩
  · have := hK x v q
    omega
  · omega
theorem step_none {adj : F → F → Prop} {low last : Int} {K R : F → Option Int} (h : Step adj low last K R) (hl : last ≤ low) : R = K := funext fun x => by
  have e : Least (Cand adj low last K x) (K x) := by
    refine ⟨fun c hc => ?_, fun u e => .inl e⟩
    rcases hc with q | ⟨_, m, _, _, q, _⟩
    · exact ⟨c, q, Int.le_refl _⟩
    · omega
  exact least_uniq (h x) e
theorem step_keys {adj : F → F → Prop} {low last : Int} {K R : F → Option Int} (hK : Bd K low) (h : Step adj low last K R) (x : F) :
    R x ≠ none ↔ ∃ (f : F) (n : Nat), K f ≠ none ∧ Walk adj n f x ∧ (n = 0 ∨ low + n ≤ last) := by
  constructor
  · intro hx
    cases e : R x with
    | none => exact absurd e hx
    | some u =>
      rcases (h x).2 u e with q | ⟨f, m, n, q1, q2, q3, q4, q5⟩
      · exact ⟨x, 0, by rw [q]; simp, rfl, .inl rfl⟩
      · have := hK f m q1
        exact ⟨f, n, by rw [q1]; simp, q3, .inr (by omega)⟩
  · rintro ⟨f, n, h1, h2, h3⟩
    cases e : K f with
    | none => exact absurd e h1
    | some m =>
      have hm := hK f m e
      have c : ∃ c, Cand adj low last K x c := by
        by_cases hn : n = 0
        · subst hn
          have : f = x := h2
          subst this
          exact ⟨m, .inl e⟩
        · rcases h3 with z | z
          · exact absurd z hn
          · exact ⟨max m low + n, .inr ⟨f, m, n, e, by omega, h2, rfl, by omega⟩⟩
      obtain ⟨c, hc⟩ := c
      obtain ⟨u, e, _⟩ := (h x).1 c hc
      rw [e]
      simp
theorem step_split {adj : F → F → Prop} {low a b : Int} {K M R : F → Option Int} (hK : Bd K low) (ha : 0 ≤ a) (hb : 0 ≤ b) (h1 : Step adj low (low + a) K M) (h2 : Step adj (low + a) (low + a + b) M R) : Step adj low (low + a + b) K R := by
  have hM : Bd M (low + a) := step_bd hK h1 (by omega) (Int.le_refl _)
  intro x
  refine least_of (fun c hc => ?_) fun u e => ?_
  · rcases hc with q | ⟨f, m, n, q1, q2, q3, q4, q5⟩
    · obtain ⟨u1, e1, l1⟩ := (h1 x).1 c (.inl q)
      obtain ⟨u2, e2, l2⟩ := (h2 x).1 u1 (.inl e1)
      exact ⟨u2, e2, by omega⟩
    · have hm := hK f m q1
      by_cases hn : (n : Int) ≤ a
      · have z : ∃ u1, M x = some u1 ∧ u1 ≤ c := by
          by_cases h0 : n = 0
          · subst h0
            have : f = x := q3
            subst this
            obtain ⟨u1, e1, l1⟩ := (h1 f).1 m (.inl q1)
            exact ⟨u1, e1, by omega⟩
          · exact (h1 x).1 c (.inr ⟨f, m, n, q1, by omega, q3, q4, by omega⟩)
        obtain ⟨u1, e1, l1⟩ := z
        obtain ⟨u2, e2, l2⟩ := (h2 x).1 u1 (.inl e1)
        exact ⟨u2, e2, by omega⟩
      · have hs : n = a.toNat + (n - a.toNat) := by omega
        rw [hs] at q3
        obtain ⟨y, w1, w2⟩ := (walk_add _ _ _ _).mp q3
        have z : ∃ u1, M y = some u1 := by
          by_cases h0 : a = 0
          · subst h0
            have : f = y := w1
            subst this
            obtain ⟨u1, e1, _⟩ := (h1 f).1 m (.inl q1)
            exact ⟨u1, e1⟩
          · obtain ⟨u1, e1, _⟩ := (h1 y).1 (max m low + (a.toNat : Int)) (.inr ⟨f, m, a.toNat, q1, by omega, w1, rfl, by omega⟩)
            exact ⟨u1, e1⟩
        obtain ⟨u1, e1⟩ := z
        have hu := hM y u1 e1
        exact (h2 x).1 c (.inr ⟨y, u1, n - a.toNat, e1, by omega, w2, by omega, by omega⟩)
  · rcases (h2 x).2 u e with q | ⟨y, m', n, q1, q2, q3, q4, q5⟩
    · rcases (h1 x).2 u q with q' | ⟨f, m, n, q1, q2, q3, q4, q5⟩
      · exact ⟨u, .inl q', Int.le_refl _⟩
      · exact ⟨u, .inr ⟨f, m, n, q1, by omega, q3, q4, by omega⟩, Int.le_refl _⟩
    · have hm' := hM y m' q1
      rcases (h1 y).2 m' q1 with q' | ⟨f, m, k, p1, p2, p3, p4, p5⟩
      · have := hK y m' q'
        exact ⟨max m' low + n, .inr ⟨y, m', n, q', by omega, q3, rfl, by omega⟩, by omega⟩
      · have := hK f m p1
        exact ⟨max m low + ((k + n : Nat) : Int), .inr ⟨f, m, k + n, p1, by omega, (walk_add _ _ _ _).mpr ⟨y, p3, q3⟩, rfl, by omega⟩, by omega⟩

/-! ### rows: each deed its beats and what touches -/
abbrev Rw (F : Type) := List (Int × (F → F → Prop))
def tot : Rw F → Int
  | [] => 0
  | d :: r => d.1 + tot r
theorem tot_app : ∀ a b : Rw F, tot (a ++ b) = tot a + tot b
  | [], b => by simp [tot]
  | d :: a, b => by
    have := tot_app a b
    show d.1 + tot (a ++ b) = d.1 + tot a + tot b
    omega
def NN (r : Rw F) : Prop := ∀ d ∈ r, 0 ≤ d.1
theorem tot_nn : ∀ {r : Rw F}, NN r → 0 ≤ tot r
  | [], _ => Int.le_refl _
  | d :: r, h => by
    have h1 := h d List.mem_cons_self
    have h2 := tot_nn (r := r) fun e he => h e (List.mem_cons_of_mem _ he)
    show 0 ≤ d.1 + tot r
    omega
def Steps : Rw F → Int → Int → (F → Option Int) → (F → Option Int) → Prop
  | [], _, _, K, R => R = K
  | d :: r, low, dry, K, R => ∃ M, Step d.2 low (min (low + d.1) dry) K M ∧ Steps r (low + d.1) dry M R
theorem steps_uniq : ∀ {r : Rw F} {low dry : Int} {K R R' : F → Option Int}, Steps r low dry K R → Steps r low dry K R' → R = R'
  | [], _, _, _, _, _, h, k => h.trans k.symm
  | d :: r, _, _, _, _, _, ⟨M, h1, h2⟩, ⟨M', k1, k2⟩ => by
    have := step_uniq h1 k1
    subst this
    exact steps_uniq h2 k2
theorem steps_app : ∀ {a b : Rw F} {low dry : Int} {K R : F → Option Int}, Steps (a ++ b) low dry K R ↔ ∃ M, Steps a low dry K M ∧ Steps b (low + tot a) dry M R
  | [], b, low, dry, K, R => by
    constructor
    · intro h
      refine ⟨K, rfl, ?_⟩
      show Steps b (low + 0) dry K R
      rw [Int.add_zero]
      exact h
    · rintro ⟨M, h1, h2⟩
      have h1' : M = K := h1
      subst h1'
      have h2' : Steps b (low + 0) dry M R := h2
      rw [Int.add_zero] at h2'
      exact h2'
  | d :: a, b, low, dry, K, R => by
    have e : low + tot (d :: a) = low + d.1 + tot a := by show low + (d.1 + tot a) = _; omega
    constructor
    · rintro ⟨M, h1, h2⟩
      obtain ⟨M', h3, h4⟩ := steps_app.mp h2
      exact ⟨M', ⟨M, h1, h3⟩, by rw [e]; exact h4⟩
    · rintro ⟨M', ⟨M, h1, h3⟩, h4⟩
      rw [e] at h4
      exact ⟨M, h1, steps_app.mpr ⟨M', h3, h4⟩⟩
theorem steps_bd : ∀ {r : Rw F} {low dry : Int} {K R : F → Option Int}, NN r → Bd K low → Steps r low dry K R → Bd R (low + tot r)
  | [], low, dry, K, R, _, hK, h => by
    have h' : R = K := h
    subst h'
    show Bd R (low + 0)
    rw [Int.add_zero]
    exact hK
  | d :: r, low, dry, K, R, hn, hK, ⟨M, h1, h2⟩ => by
    have hd := hn d List.mem_cons_self
    have hM : Bd M (low + d.1) := step_bd hK h1 (by omega) (by omega)
    have := steps_bd (fun e he => hn e (List.mem_cons_of_mem _ he)) hM h2
    show Bd R (low + (d.1 + tot r))
    rw [← Int.add_assoc]
    exact this
/-- from f ink that is put there at low and is wet till dry comes to x within the row -/
def Rch : Rw F → Int → Int → F → F → Prop
  | [], _, _, f, x => f = x
  | d :: r, low, dry, f, x => ∃ (y : F) (n : Nat), Walk d.2 n f y ∧ (n = 0 ∨ low + n ≤ min (low + d.1) dry) ∧ Rch r (low + d.1) dry y x
theorem steps_keys : ∀ {r : Rw F} {low dry : Int} {K R : F → Option Int}, NN r → Bd K low → Steps r low dry K R → ∀ x, R x ≠ none ↔ ∃ f, K f ≠ none ∧ Rch r low dry f x
  | [], low, dry, K, R, _, hK, h, x => by
    have h' : R = K := h
    subst h'
    exact ⟨fun q => ⟨x, q, rfl⟩, fun ⟨f, q, e⟩ => by have e' : f = x := e; rw [← e']; exact q⟩
  | d :: r, low, dry, K, R, hn, hK, ⟨M, h1, h2⟩, x => by
    have hd := hn d List.mem_cons_self
    have hM : Bd M (low + d.1) := step_bd hK h1 (by omega) (by omega)
    rw [steps_keys (fun e he => hn e (List.mem_cons_of_mem _ he)) hM h2 x]
    constructor
    · rintro ⟨y, hy, hr⟩
      obtain ⟨f, n, q1, q2, q3⟩ := (step_keys hK h1 y).mp hy
      exact ⟨f, q1, y, n, q2, q3, hr⟩
    · rintro ⟨f, q1, y, n, q2, q3, hr⟩
      exact ⟨y, (step_keys hK h1 y).mpr ⟨f, n, q1, q2, q3⟩, hr⟩
theorem rch_app : ∀ {a b : Rw F} {low dry : Int} {f x : F}, Rch (a ++ b) low dry f x ↔ ∃ y, Rch a low dry f y ∧ Rch b (low + tot a) dry y x
  | [], b, low, dry, f, x => by
    constructor
    · intro h
      refine ⟨f, rfl, ?_⟩
      show Rch b (low + 0) dry f x
      rw [Int.add_zero]
      exact h
    · rintro ⟨y, h1, h2⟩
      have h1' : f = y := h1
      subst h1'
      have h2' : Rch b (low + 0) dry f x := h2
      rw [Int.add_zero] at h2'
      exact h2'
  | d :: a, b, low, dry, f, x => by
    have e : low + tot (d :: a) = low + d.1 + tot a := by show low + (d.1 + tot a) = _; omega
    constructor
    · rintro ⟨y, n, h1, h2, h3⟩
      obtain ⟨z, h4, h5⟩ := rch_app.mp h3
      exact ⟨z, ⟨y, n, h1, h2, h4⟩, by rw [e]; exact h5⟩
    · rintro ⟨z, ⟨y, n, h1, h2, h4⟩, h5⟩
      rw [e] at h5
      exact ⟨y, n, h1, h2, rch_app.mpr ⟨z, h4, h5⟩⟩
theorem rch_shift {c dry : Int} : ∀ {r : Rw F} {low : Int} {f x : F}, NN r → 0 ≤ low → (Rch r (c + low) dry f x ↔ Rch r low (max 0 (dry - c)) f x)
  | [], _, _, _, _, _ => Iff.rfl
  | d :: r, low, f, x, hn, hl => by
    have hd := hn d List.mem_cons_self
    have e : c + low + d.1 = c + (low + d.1) := by omega
    have ih : ∀ y, Rch r (c + low + d.1) dry y x ↔ Rch r (low + d.1) (max 0 (dry - c)) y x := fun y => by
      rw [e]
      exact rch_shift (fun e he => hn e (List.mem_cons_of_mem _ he)) (by omega)
    have k : ∀ n : Nat, (n = 0 ∨ c + low + n ≤ min (c + low + d.1) dry) ↔ (n = 0 ∨ low + n ≤ min (low + d.1) (max 0 (dry - c))) := fun n => by omega
    constructor
    · rintro ⟨y, n, h1, h2, h3⟩
      exact ⟨y, n, h1, (k n).mp h2, (ih y).mp h3⟩
    · rintro ⟨y, n, h1, h2, h3⟩
      exact ⟨y, n, h1, (k n).mpr h2, (ih y).mpr h3⟩
/-- THE FIRST LAW: webs put behind one another -/
theorem rch_behind {a b : Rw F} (hb : NN b) (ha : NN a) {wet : Int} {f x : F} : Rch (a ++ b) 0 wet f x ↔ ∃ y, Rch a 0 wet f y ∧ Rch b 0 (max 0 (wet - tot a)) y x := by
  rw [rch_app]
  have e : ∀ y, Rch b (0 + tot a) wet y x ↔ Rch b 0 (max 0 (wet - tot a)) y x := fun y => by
    have e : (0 : Int) + tot a = tot a + 0 := by omega
    rw [e]
    exact rch_shift hb (Int.le_refl _)
  constructor
  · rintro ⟨y, h1, h2⟩
    exact ⟨y, h1, (e y).mp h2⟩
  · rintro ⟨y, h1, h2⟩
    exact ⟨y, h1, (e y).mpr h2⟩
/-- each deed cut in two -/
inductive Split : Rw F → Rw F → Prop
  | nil : Split [] []
  | cons {b h : Int} {adj : F → F → Prop} {r s : Rw F} : 0 ≤ h → h ≤ b → Split r s → Split ((b, adj) :: r) ((h, adj) :: (b - h, adj) :: s)
theorem Split.tot_eq {r s : Rw F} (h : Split r s) : tot s = tot r := by
  induction h with
  | nil => rfl
  | cons h1 h2 _ ih =>
    show _ + (_ - _ + tot _) = _ + tot _
    omega
theorem Split.nn {r s : Rw F} (h : Split r s) : NN r ∧ NN s := by
  induction h with
  | nil => exact ⟨fun _ h => (nomatch h), fun _ h => (nomatch h)⟩
  | @cons b h adj r s h1 h2 _ ih =>
    refine ⟨fun d hd => ?_, fun d hd => ?_⟩
    · rcases List.mem_cons.mp hd with e | e
      · rw [e]; show 0 ≤ b; omega
      · exact ih.1 d e
    · rcases List.mem_cons.mp hd with e | e
      · rw [e]; exact h1
      · rcases List.mem_cons.mp e with e | e
        · rw [e]; show 0 ≤ b - h; omega
        · exact ih.2 d e
theorem Split.steps {r s : Rw F} (h : Split r s) : ∀ {low dry : Int} {K R : F → Option Int}, Bd K low → low + tot r ≤ dry → Steps s low dry K R → Steps r low dry K R := by
  induction h with
  | nil => exact fun _ _ q => q
  | @cons b h adj r s h1 h2 hrs ih =>
    rintro low dry K R hK hd ⟨M, s1, M', s2, s3⟩
    have hr := tot_nn hrs.nn.1
    have hd' : low + (b + tot r) ≤ dry := hd
    have s1' : Step adj low (min (low + h) dry) K M := s1
    have s2' : Step adj (low + h) (min (low + h + (b - h)) dry) M M' := s2
    have s3' : Steps s (low + h + (b - h)) dry M' R := s3
    have e1 : min (low + h) dry = low + h := by omega
    have e2 : min (low + h + (b - h)) dry = low + h + (b - h) := by omega
    have e3 : low + h + (b - h) = low + b := by omega
    rw [e1] at s1'
    rw [e2] at s2'
    have st := step_split hK h1 (by omega) s1' s2'
    rw [e3] at st s3'
    refine ⟨M', ?_, ih (step_bd hK st (by omega) (Int.le_refl _)) (by omega) s3'⟩
    show Step adj low (min (low + b) dry) K M'
    have e4 : min (low + b) dry = low + b := by omega
    rw [e4]
    exact st
/-- THE SECOND LAW: a split row has the same moments, with rows behind and ahead -/
theorem split_same {a r s c : Rw F} (ha : NN a) (hc : NN c) (h : Split r s) {K R R' : F → Option Int} (hK : Bd K 0) (h1 : Steps (a ++ r ++ c) 0 (tot (a ++ r ++ c)) K R) (h2 : Steps (a ++ s ++ c) 0 (tot (a ++ s ++ c)) K R') : R = R' := by
  have et : tot (a ++ s ++ c) = tot (a ++ r ++ c) := by rw [tot_app, tot_app, tot_app, tot_app, h.tot_eq]
  rw [et] at h2
  generalize htt : tot (a ++ r ++ c) = T at h1 h2
  have ht : tot a + tot r + tot c = T := by rw [← htt, tot_app, tot_app]
  obtain ⟨N, k1, k2⟩ := steps_app.mp h2
  obtain ⟨M, k3, k4⟩ := steps_app.mp k1
  have hM := steps_bd ha hK k3
  have q := h.steps hM (by have := tot_nn hc; omega) k4
  have e : tot (a ++ s) = tot (a ++ r) := by rw [tot_app, tot_app, h.tot_eq]
  rw [e] at k2
  exact steps_uniq h1 (steps_app.mpr ⟨N, steps_app.mpr ⟨M, k3, q⟩, k2⟩)
end
end WmM
end
section
set_option Elab.async false
set_option linter.all false
set_option maxRecDepth 100000
set_option maxHeartbeats 4000000
/-! Rules of our own over the hand layer: sorted of data, of dicts with tuple keys; least and greatest of two data; repr of data. -/
namespace Wm
open PySem PySem.Spec PyProof.Rows L2
open PySem.W (EachIs)
set_option autoImplicit false
section
variable {X : Cx} {pins : List (Addr × Obj)} {σ : L2.St} {H H' : Hp} {s : Shared}
/-- the heap has grown: all old objects stand, the abstract heap tells more -/
theorem grow {h' : Heap} {tk : Nat} (I : Inv X pins σ H s) (hk : ∀ b o, s.heap.get? b = some o → h'.get? b = some o) (kp : Same H H')
    (nw : ∀ b u, H' b = some u → H b = some u ∨ (s.heap.objs.size ≤ b ∧ ObjOk X.prog X.w H' h' b u)) : Inv X pins σ H' { s with heap := h', toks := tk } := by
  have fr : ∀ b o, s.heap.get? b = some o → H b = none → H' b = none := fun b o e n => by
    cases q : H' b with
    | none => rfl
    | some u =>
      rcases nw b u q with z | ⟨z, _⟩
      · rw [n] at z
        cases z
      · exact absurd (Nat.lt_of_lt_of_le (Heap.lt_size e) z) (Nat.lt_irrefl _)
  have ok : HOk X.prog X.w H' h' := fun b u q => by
    rcases nw b u q with z | ⟨_, z⟩
    · exact (I.hok b u z).stay (fun c v _ y => hk c v y) (fun d y => kp d _ y) fun d xs y => kp d _ y
    · exact z
  exact I.call' (s' := { s with heap := h', toks := tk }) (ch := []) rfl
    { keep := fun b o e _ _ _ => hk b o e, slot := fun b o e _ _ _ => ⟨o.slots, hk b o e⟩, free := fun b o e n _ => fr b o e n, there := fun b o e _ => ⟨o, hk b o e⟩,
      tups := fun b xs e => kp b _ e, frzs := fun b o u e => kp b _ e, tbls := fun b ps e => ⟨#[], by rw [kp b _ e]; simp⟩ } ok I.bare fun b z => absurd z (by simp)
end

/-! ### lists that go together -/
section
variable {α β γ : Type}
theorem each_of {R : α → β → Prop} : ∀ {xs : List α} {ys : List β}, Paired R xs ys → EachIs R xs ys
  | _, _, .nil => .nil
  | _, _, .cons h t => .cons h (each_of t)
theorem of_each {R : α → β → Prop} : ∀ {xs : List α} {ys : List β}, EachIs R xs ys → Paired R xs ys
  | _, _, .nil => .nil
  | _, _, .cons h t => .cons h (of_each t)
/-- values, what they are, what these stand for -/
theorem each_vals {R : V → β → Prop} : ∀ {xs : List V} {us : List Value} {bs : List β}, Vals xs us → Paired R xs bs → EachIs (fun u b => ∃ x, RelV x u ∧ R x b) us bs
  | _, _, _, .nil, .nil => .nil
  | _, _, _, .cons r t, .cons h k => .cons ⟨_, r, h⟩ (each_vals t k)
theorem vals_each {R : V → β → Prop} : ∀ {us : List Value} {bs : List β}, EachIs (fun u b => ∃ x, RelV x u ∧ R x b) us bs → ∃ xs : List V, Vals xs us ∧ Paired R xs bs
  | _, _, .nil => ⟨[], .nil, .nil⟩
  | _, _, .cons ⟨x, r, h⟩ t => by
    obtain ⟨xs, h1, h2⟩ := vals_each t
    exact ⟨x :: xs, .cons r h1, .cons h h2⟩
end

section
variable {X : Cx} {β : Type}
/-! ### sorted(xs), xs a list of alike data -/
def rSrt (K : PySem.W.Frag) (enc : β → PyData) : List V → Hp → VK → Prop := fun vs H Q => ∃ (a : Addr) (xs : List V) (bs : List β) (R : V → β → Prop), vs = [V.ref a] ∧ SqL K H a xs ∧ Paired R xs bs ∧
  (∀ x b, R x b → Dp K H x (enc b)) ∧ PySem.W.AllAlike (bs.map enc) ∧ PySem.W.Sortable (bs.map enc) ∧ (∀ b ∈ bs, (enc b).depth ≤ 8) ∧
  ∀ (ys : List V) (p : Addr), Paired R ys (bs.mergeSort (PySem.W.dataLe false enc)) → H p = none → Q (.ref p) (upd H p (.lst ys))
theorem cr_srt (hu : X.A.units + 64 < cLine) {enc : β → PyData} : CallR X (.builtin "sorted") (rSrt X.K enc) := by
  intro pins s σ H vs us Q I r h
  obtain ⟨a, xs, bs, R, rfl, hs, hp, hR, hal, hk, hd, q⟩ := h
  obtain ⟨u, rfl, ru⟩ := vals1 r
  cases (show u = Value.ref a from ru)
  obtain ⟨its, rv, hl, hz⟩ := I.list hs
  have e := each_vals rv hp
  have le := e.length
  refine PySem.W.sorted_data (enc := enc) hl.isList e (e.mono fun u b ⟨x, rx, hx⟩ => Dp.reads I _ _ _ (hR x b hx) rx) hal hk (by rw [← le, ← rv.length]; exact hz) (fun b hb => by have := hd b hb; omega) fun out ho ho2 => ?_
  obtain ⟨ys, y1, y2⟩ := vals_each ho2
  obtain ⟨n, hn⟩ := PyProof.Rows.sortedAll_at s.heap its (List.toArray out)
  have hlen : ys.length ≤ sizeLine := by rw [y1.length, ho, ← le, ← rv.length]; exact hz
  refine ⟨.ref (s.heap.objs.size + 1), upd H (s.heap.objs.size + 1) (.lst ys), I.laid (t' := s.toks) (fun b o e => PyProof.Rows.sortedAll_old e) (Nat.le_succ _) ⟨hlen, out, n, y1, hn⟩, rfl, q ys _ y2 (I.hok.fresh (Nat.le_succ _))⟩

/-! ### sorted(d), d a dict with tuple keys -/
def rSrtD (enc : List Key → PyData) : List V → Hp → VK → Prop := fun vs H Q => ∃ (a : Addr) (kvs : List (List Key × V)), vs = [V.ref a] ∧ Rd H a (.dT kvs) ∧
  (∀ k ∈ kvs.map (·.1), enc k = .tuple (k.map fun y => match y with | .inl i => .int i | .inr x => .str x)) ∧
  PySem.W.AllAlike ((kvs.map (·.1)).map enc) ∧ PySem.W.Sortable ((kvs.map (·.1)).map enc) ∧ (∀ b ∈ kvs.map (·.1), (enc b).depth ≤ 8) ∧
  ∀ (ys : List V) (p : Addr), Paired (fun y k => ∃ q, y = V.ref q ∧ H q = some (.tup (k.map kV))) ys ((kvs.map (·.1)).mergeSort (PySem.W.dataLe false enc)) → H p = none → Q (.ref p) (upd H p (.lst ys))
theorem dp_key {K : PySem.W.Frag} {H : Hp} : ∀ k : List Key, DpAll K H (k.map kV) (k.map fun y => match y with | .inl i => .int i | .inr x => .str x)
  | [] => .nil
  | .inl i :: k => .cons (.int i) (dp_key k)
  | .inr x :: k => .cons (.str x) (dp_key k)
theorem cr_srtD (hc : X.calm = true) (hu : X.A.units + 64 < cLine) {enc : List Key → PyData} : CallR X (.builtin "sorted") (rSrtD enc) := by
  intro pins s σ H vs us Q I r h
  obtain ⟨a, kvs, rfl, hd, henc, hal, hk, hdp, q⟩ := h
  obtain ⟨u, rfl, ru⟩ := vals1 r
  cases (show u = Value.ref a from ru)
  obtain ⟨z, hs, ks, pr, o, es, ep, ho, hx, hdt, he, hn⟩ := (show ObjOk X.prog X.w H s.heap a (.dT kvs) from hd.ok I.hok)
  have l1 : es.size = ks.length := size_of_entries he
  have l2 : kvs.length = ks.length := Paired.length pr
  refine Calls.call_function_entry kind_sorted plain_sorted entry_sorted (args_sorted1 _) ?_
  unfold Builtin.«sorted»
  refine wpAny_bind (m := checkCount "sorted" 1 1 _) (wpAny_pure ?_)
  refine wpAny_bind (PySem.W.kdu_collect (A := X.A.in1) (kdl_raw hs hx hdt) (I.ok.hd hc) ho (by omega) fun h1 tk acc kp it => ?_)
  have I1 : Inv X pins σ H { s with heap := h1, toks := tk } := I.kept kp
  -- the gathered keys
  have each : EachIs (fun u k => ∃ y, RelV y u ∧ ∃ q, y = V.ref q ∧ H q = some (.tup (List.map kV k))) acc.toList (kvs.map (·.1)) := by
    refine PySem.W.EachIs.of_zip (by rw [Array.length_toList, it.1, List.length_map]; omega) fun p hp => ?_
    obtain ⟨j, hj, ej⟩ := List.mem_iff_getElem.mp hp
    have e1 : acc.toList[j]? = some p.1 := by
      rw [List.getElem?_eq_getElem (by rw [List.length_zip] at hj; omega)]
      rw [List.getElem_zip] at ej
      rw [← ej]
    have e2 : (kvs.map (·.1))[j]? = some p.2 := by
      rw [List.getElem?_eq_getElem (by rw [List.length_zip] at hj; omega)]
      rw [List.getElem_zip] at ej
      rw [← ej]
    obtain ⟨en, hen, hv⟩ := it.2 j p.1 (by rw [← Array.getElem?_toList]; exact e1)
    rw [List.getElem?_map] at e2
    cases e3 : kvs[j]? with
    | none => rw [e3] at e2; cases e2
    | some kv =>
      rw [e3] at e2
      have e2' : kv.1 = p.2 := Option.some.inj e2
      rw [← e2']
      obtain ⟨x, hx1, hx2⟩ := L2.paired_get pr e3
      have e4 := entry_at he j
      rw [hen, hx1] at e4
      have e5 : en = entryOfKey (tupleKind (mixKind X.prog X.w)) x := Option.some.inj e4
      refine ⟨.ref x.2.1, ?_, x.2.1, rfl, hx2.2.1⟩
      show p.1 = Value.ref x.2.1
      rw [hv, e5]
      all_goals rfl
  have le := each.length
  refine wpAny_bind (wpAny_newList ?_ (by rw [le, List.length_map]; omega))
  have hoL : (h1.push (seqObj "list" acc.toList.toArray 0)).get? h1.objs.size = some (seqObj "list" acc.toList.toArray 0) := Heap.get?_push_size _ rfl
  show wpAny _ _ _ _ _ { s with heap := h1.push (seqObj "list" acc.toList.toArray 0), toks := tk }
  have I2 : Inv X pins σ H { s with heap := h1.push (seqObj "list" acc.toList.toArray 0), toks := tk } := I.kept fun b o e => Heap.get?_push_of_some _ (kp b o e)
  refine wpAny_bind (wpAny_holding (PySem.W.list_sort_data (s := { s with heap := h1.push (seqObj "list" acc.toList.toArray 0), toks := tk }) (enc := enc) (a := h1.objs.size) (n := 0) hoL each ?_ hal hk (by rw [List.length_map]; omega) (fun b hb => by have := hdp b hb; show X.A.units + 1 + 1 + _ < _; omega) fun out ho1 ho2 => ?_))
  · -- the items read as data, none of them leads to the list
    refine PySem.W.EachIs.of_zip le fun p hp => ?_
    obtain ⟨y, ry, b, ey, hb⟩ := each.zip p hp
    have hm : p.2 ∈ kvs.map (·.1) := (List.of_mem_zip hp).2
    subst ey
    obtain ⟨_, its, rv, ⟨ob, hob, hcl, n, hdd⟩⟩ := (show ObjOk X.prog X.w H h1 b (.tup (List.map kV p.2)) from I1.hok _ _ hb)
    obtain ⟨as, ra⟩ := Dp.readsAll I2 _ _ _ (dp_key (K := X.K) (H := H) p.2) rv
    have hb1 : b < h1.objs.size := Heap.lt_size hob
    have nil : ∀ (ds : List PyData) (vs : List V) (us : List Value) (as : List Addr), (∃ k : List Key, ds = k.map fun y => match y with | .inl i => PyData.int i | .inr x => PyData.str x) → ReadsAll (h1.push (seqObj "list" acc.toList.toArray 0)) us ds as → as = [] := by
      intro ds
      induction ds with
      | nil => intro _ _ _ _ r; cases r; rfl
      | cons d ds ih =>
        rintro vs us as ⟨k, e⟩ r
        cases k with
        | nil => cases e
        | cons y k =>
          rw [List.map_cons] at e
          injection e with e1 e2
          cases r with
          | cons r1 r2 =>
            have := ih vs _ _ ⟨k, e2⟩ r2
            cases y with
            | inl i =>
              have e1' : d = PyData.int i := e1
              subst e1'
              cases r1
              exact this
            | inr x =>
              have e1' : d = PyData.str x := e1
              subst e1'
              cases r1
              exact this
    have na := nil _ [] _ _ ⟨p.2, rfl⟩ ra
    subst na
    refine ⟨[], ?_, by simp⟩
    rw [henc p.2 hm]
    have e1 : p.1 = Value.ref b := ry
    rw [e1]
    exact Reads.tuple (Heap.get?_push_of_some _ hob) hcl hdd (by simpa using ra)
  · obtain ⟨ys, y1, y2⟩ := vals_each ho2
    obtain ⟨e', he'⟩ := PyProof.Rows.sortedHeap_at (vs := acc.toList) (out := List.toArray out) hoL
    have hlen : ys.length ≤ sizeLine := by rw [y1.length, ho1, List.length_map]; exact z
    refine wpAny_pure ⟨_, rfl, .ref h1.objs.size, upd H h1.objs.size (.lst ys), I1.laid (t' := tk) (fun b u e => ?_) (Nat.le_refl _) ⟨hlen, out, e', y1, he'⟩, rfl, q ys _ y2 (I1.hok.fresh (Nat.le_refl _))⟩
    have hb : b < h1.objs.size := Heap.lt_size e
    rw [PyProof.Rows.sortedHeap_old (Nat.ne_of_lt hb) (by rw [size_push']; exact Nat.lt_succ_of_lt hb)]
    exact Heap.get?_push_of_some _ e
end
end Wm
end
section
set_option Elab.async false
set_option linter.all false
set_option maxRecDepth 100000
set_option maxHeartbeats 4000000
/-! Least and greatest of two data; the text of data. -/
namespace Wm
open PySem PySem.Spec PyProof.Rows L2
open PySem.W (EachIs alike dataLt)
set_option autoImplicit false
section
variable {prog : Program} {w : World} {A : Around} {E : Value → Shared → Prop} {s : Shared}
/-- two values that read as data, as the tuple that min and max make of them reads -/
theorem two_reads {a b : Value} {da db : PyData} {as bs : List Addr} {h : Heap} (ra : Reads h a da as) (rb : Reads h b db bs) : ∃ cs, ReadsAll h (#[a, b] : Array Value).toList [da, db] cs := ⟨_, .cons ra (.cons rb .nil)⟩
theorem two_alike {da db : PyData} (h1 : alike da da = true) (h2 : alike da db = true) (h3 : alike db da = true) (h4 : alike db db = true) (n1 : da ≠ .none) (n2 : db ≠ .none) : PySem.W.AlikeAll [da, db] := by
  refine ⟨fun x hx y hy => ?_, fun x hx => ?_⟩
  · simp only [List.mem_cons, List.not_mem_nil, or_false] at hx hy
    rcases hx with e | e <;> rcases hy with e' | e' <;> (rw [e, e']; assumption)
  · simp only [List.mem_cons, List.not_mem_nil, or_false] at hx
    rcases hx with e | e <;> (rw [e]; assumption)
theorem least2 {a b : Value} {da db : PyData} {as bs : List Addr} {Q : Value → Shared → Prop} (hh : A.handled = none) (ra : Reads s.heap a da as) (rb : Reads s.heap b db bs) (al : PySem.W.AlikeAll [da, db]) (d1 : da.depth ≤ 8) (d2 : db.depth ≤ 8) (hu : A.units + 64 < cLine)
    (h : ∀ h' tk, (∀ c o, s.heap.get? c = some o → h'.get? c = some o) → Q (if dataLt db da = true then b else a) { s with heap := h', toks := tk }) : wpAny (model prog w) A (call (.builtin "min") [a, b]) Q E s := by
  have nm : (toString "min" ++ toString ".loop" : String) = "min.loop" := by decide
  refine call_function_tree F.kind_min F.plain_min F.entry_min (F.args_min2 a b) ?_
  show wpAny _ A.in1 (Builtin.Builtins.bindParams "min" ["key", "default"] 0 ⟨[], []⟩ >>= _) _ E s
  refine wpAny_bind (wpAny_of_eq (show Builtin.Builtins.bindParams "min" ["key", "default"] 0 ⟨[], []⟩ = pure [Option.none, Option.none] from rfl) ?_)
  show wpAny _ A.in1 (newTuple [a, b] >>= _) _ E s
  refine wpAny_bind (wpAny_newObj_type ?_)
  have kp : ∀ c o, s.heap.get? c = some o → (s.heap.push { cls := .type "tuple", data := .seq #[a, b] }).get? c = some o := fun c o e => Heap.get?_push_of_some _ e
  obtain ⟨cs, rr⟩ := two_reads (Reads.keeps kp ra) (Reads.keeps kp rb)
  have hT : (s.heap.push { cls := .type "tuple", data := .seq #[a, b] }).IsTuple s.heap.objs.size #[a, b] := ⟨_, Heap.get?_push_size _ rfl, rfl, 0, rfl⟩
  refine wpAny_bind (PySem.W.iter_tupleW (A := A.in1) (s := { s with heap := s.heap.push { cls := .type "tuple", data := .seq #[a, b] } }) hh hT fun s2 e W st hfp hw hk => ?_)
  refine wpAny_bind (wpAny_newObj_type ?_)
  have nfp : s2.heap.objs.size ∉ [(s.heap.push { cls := .type "tuple", data := .seq #[a, b] }).objs.size, s.heap.objs.size] := fun z => Nat.lt_irrefl _ (hfp _ z)
  have dd : PyData.depthAll [da, db] ≤ 8 := by
    simp only [PyData.depthAll]
    omega
  have cmp := PySem.W.cmpIn_lt (prog := prog) (w := w) (A := A.in1) (s := { s with heap := s.heap.push { cls := .type "tuple", data := .seq #[a, b] } }) rr al (by show A.units + 1 + PyData.depthAll [da, db] < cLine; omega)
  rw [nm]
  refine wpAny_pure ⟨plainId_quiet F.plain_min_loop _, PySem.codeAny_min_loop_firstH W (s.heap.push { cls := .type "tuple", data := .seq #[a, b] }) hw _ cmp s2.heap.objs.size nfp (PySem.fresh_in hk) _ (by simp) (fun c o e => Heap.get?_push_of_some _ (hk c o e))
    (W.frame 0 s2 _ s2.toks st (Nat.le_refl _) fun c _ o e => Heap.get?_push_of_some _ e) (Heap.get?_push_size _ rfl) fun v s' hP hm => ?_⟩
  obtain ⟨h', tk, rfl, hk'⟩ := PySem.W.moved_old e rfl (Moved.drop_new (tk := s2.toks) hm (Nat.le_refl _))
  have hv : (if dataLt db da = true then b else a) = v := by
    by_cases q : dataLt db da = true
    · have e1 : PySem.argBest (fun i j => dataLt ([da, db].getD i .none) ([da, db].getD j .none)) 1 = 1 := by simp [PySem.argBest, q]
      have hP' : (#[a, b] : Array Value)[PySem.argBest (fun i j => dataLt ([da, db].getD i .none) ([da, db].getD j .none)) 1]? = some v := hP
      rw [e1] at hP'
      rw [if_pos q]
      simpa using hP'
    · have e1 : PySem.argBest (fun i j => dataLt ([da, db].getD i .none) ([da, db].getD j .none)) 1 = 0 := by simp [PySem.argBest, q]
      have hP' : (#[a, b] : Array Value)[PySem.argBest (fun i j => dataLt ([da, db].getD i .none) ([da, db].getD j .none)) 1]? = some v := hP
      rw [e1] at hP'
      rw [if_neg q]
      simpa using hP'
  rw [← hv]
  exact h h' tk fun c o e => hk' c o (kp c o e)
theorem most2 {a b : Value} {da db : PyData} {as bs : List Addr} {Q : Value → Shared → Prop} (hh : A.handled = none) (ra : Reads s.heap a da as) (rb : Reads s.heap b db bs) (al : PySem.W.AlikeAll [da, db]) (d1 : da.depth ≤ 8) (d2 : db.depth ≤ 8) (hu : A.units + 64 < cLine)
    (h : ∀ h' tk, (∀ c o, s.heap.get? c = some o → h'.get? c = some o) → Q (if dataLt da db = true then b else a) { s with heap := h', toks := tk }) : wpAny (model prog w) A (call (.builtin "max") [a, b]) Q E s := by
  have nm : (toString "max" ++ toString ".loop" : String) = "max.loop" := by decide
  refine call_function_tree F.kind_max F.plain_max F.entry_max (F.args_max2 a b) ?_
  show wpAny _ A.in1 (Builtin.Builtins.bindParams "max" ["key", "default"] 0 ⟨[], []⟩ >>= _) _ E s
  refine wpAny_bind (wpAny_of_eq (show Builtin.Builtins.bindParams "max" ["key", "default"] 0 ⟨[], []⟩ = pure [Option.none, Option.none] from rfl) ?_)
  show wpAny _ A.in1 (newTuple [a, b] >>= _) _ E s
  refine wpAny_bind (wpAny_newObj_type ?_)
  have kp : ∀ c o, s.heap.get? c = some o → (s.heap.push { cls := .type "tuple", data := .seq #[a, b] }).get? c = some o := fun c o e => Heap.get?_push_of_some _ e
  obtain ⟨cs, rr⟩ := two_reads (Reads.keeps kp ra) (Reads.keeps kp rb)
  have hT : (s.heap.push { cls := .type "tuple", data := .seq #[a, b] }).IsTuple s.heap.objs.size #[a, b] := ⟨_, Heap.get?_push_size _ rfl, rfl, 0, rfl⟩
  refine wpAny_bind (PySem.W.iter_tupleW (A := A.in1) (s := { s with heap := s.heap.push { cls := .type "tuple", data := .seq #[a, b] } }) hh hT fun s2 e W st hfp hw hk => ?_)
  refine wpAny_bind (wpAny_newObj_type ?_)
  have nfp : s2.heap.objs.size ∉ [(s.heap.push { cls := .type "tuple", data := .seq #[a, b] }).objs.size, s.heap.objs.size] := fun z => Nat.lt_irrefl _ (hfp _ z)
  have dd : PyData.depthAll [da, db] ≤ 8 := by
    simp only [PyData.depthAll]
    omega
  have cmp := PySem.W.cmpIn_gt (prog := prog) (w := w) (A := A.in1) (s := { s with heap := s.heap.push { cls := .type "tuple", data := .seq #[a, b] } }) rr al (by show A.units + 1 + PyData.depthAll [da, db] < cLine; omega)
  rw [nm]
  refine wpAny_pure ⟨plainId_quiet F.plain_max_loop _, PySem.codeAny_max_loop_firstH W (s.heap.push { cls := .type "tuple", data := .seq #[a, b] }) hw _ cmp s2.heap.objs.size nfp (PySem.fresh_in hk) _ (by simp) (fun c o e => Heap.get?_push_of_some _ (hk c o e))
    (W.frame 0 s2 _ s2.toks st (Nat.le_refl _) fun c _ o e => Heap.get?_push_of_some _ e) (Heap.get?_push_size _ rfl) fun v s' hP hm => ?_⟩
  obtain ⟨h', tk, rfl, hk'⟩ := PySem.W.moved_old e rfl (Moved.drop_new (tk := s2.toks) hm (Nat.le_refl _))
  have hv : (if dataLt da db = true then b else a) = v := by
    by_cases q : dataLt da db = true
    · have e1 : PySem.argBest (fun i j => dataLt ([da, db].getD j .none) ([da, db].getD i .none)) 1 = 1 := by simp [PySem.argBest, q]
      have hP' : (#[a, b] : Array Value)[PySem.argBest (fun i j => dataLt ([da, db].getD j .none) ([da, db].getD i .none)) 1]? = some v := hP
      rw [e1] at hP'
      rw [if_pos q]
      simpa using hP'
    · have e1 : PySem.argBest (fun i j => dataLt ([da, db].getD j .none) ([da, db].getD i .none)) 1 = 0 := by simp [PySem.argBest, q]
      have hP' : (#[a, b] : Array Value)[PySem.argBest (fun i j => dataLt ([da, db].getD j .none) ([da, db].getD i .none)) 1]? = some v := hP
      rw [e1] at hP'
      rw [if_neg q]
      simpa using hP'
  rw [← hv]
  exact h h' tk fun c o e => hk' c o (kp c o e)
end
section
variable {X : Cx}
/-- what min(x, y), max(x, y) ask of two data -/
def TwoD (K : PySem.W.Frag) (H : Hp) (x y : V) (d e : PyData) : Prop := Dp K H x d ∧ Dp K H y e ∧ PySem.W.AlikeAll [d, e] ∧ d.depth ≤ 8 ∧ e.depth ≤ 8
theorem cr_min2 (hc : X.calm = true) (hu : X.A.units + 64 < cLine) : CallR X (.builtin "min") (fun vs H Q => ∃ x y d e, vs = [x, y] ∧ TwoD X.K H x y d e ∧ Q (if dataLt e d = true then y else x) H) := by
  intro pins s σ H vs us Q I r h
  obtain ⟨x, y, d, e, rfl, ⟨h1, h2, h3, h4, h5⟩, q⟩ := h
  obtain ⟨u, v, rfl, r1, r2⟩ := vals2 r
  obtain ⟨as, ra⟩ := Dp.reads I _ _ _ h1 r1
  obtain ⟨bs, rb⟩ := Dp.reads I _ _ _ h2 r2
  refine least2 (I.ok.hd hc) ra rb h3 h4 h5 hu fun h' tk hk => ⟨_, H, I.kept hk, ?_, q⟩
  by_cases z : dataLt e d = true
  · rw [if_pos z, if_pos z]; exact r2
  · rw [if_neg z, if_neg z]; exact r1
theorem cr_max2 (hc : X.calm = true) (hu : X.A.units + 64 < cLine) : CallR X (.builtin "max") (fun vs H Q => ∃ x y d e, vs = [x, y] ∧ TwoD X.K H x y d e ∧ Q (if dataLt d e = true then y else x) H) := by
  intro pins s σ H vs us Q I r h
  obtain ⟨x, y, d, e, rfl, ⟨h1, h2, h3, h4, h5⟩, q⟩ := h
  obtain ⟨u, v, rfl, r1, r2⟩ := vals2 r
  obtain ⟨as, ra⟩ := Dp.reads I _ _ _ h1 r1
  obtain ⟨bs, rb⟩ := Dp.reads I _ _ _ h2 r2
  refine most2 (I.ok.hd hc) ra rb h3 h4 h5 hu fun h' tk hk => ⟨_, H, I.kept hk, ?_, q⟩
  by_cases z : dataLt d e = true
  · rw [if_pos z, if_pos z]; exact r2
  · rw [if_neg z, if_neg z]; exact r1
/-! ### repr(x), x a list or a tuple of data; where no repr runs around -/
theorem cr_repr (hg : X.A.guards = some []) (hu : X.A.units + 64 < cLine) : CallR X (.builtin "repr") (fun vs H Q => ∃ a d, vs = [V.ref a] ∧ Dp X.K H (.ref a) d ∧ d.showable = true ∧ d.hasDict = false ∧ d.depth ≤ 8 ∧ d.shown.length ≤ sizeLine ∧ Q (.str d.shown) H) := by
  intro pins s σ H vs us Q I r h
  obtain ⟨a, d, rfl, h1, h2, h3, h4, h5, q⟩ := h
  obtain ⟨u, rfl, r1⟩ := vals1 r
  obtain ⟨as, ra⟩ := Dp.reads I _ _ _ h1 r1
  cases (show u = Value.ref a from r1)
  refine repr_of_reads' (h₀ := s.heap) ra h2 (fun z => by rw [h3] at z; cases z) hg (by omega) (fun _ _ e => e) (fun h' u tk hk => ⟨.str d.shown, H, I.kept hk, ⟨_, rfl⟩, q⟩) h5
end
end Wm
end
section
set_option Elab.async false
set_option linter.all false
set_option maxRecDepth 100000
set_option maxHeartbeats 4000000
/-! Dicts with tuple keys: setdefault, a display of one pair, dict of a dict of one pair, dict of a list of pairs, list of the items, a walk over the items. -/
namespace Wm
open PySem PySem.Spec PyProof.Rows L2
set_option autoImplicit false
/-- what is told of a tracked dict with tuple keys, from the heap's own word -/
theorem dtNew {P : Program} {w : World} {H' : Hp} {h' : Heap} {a : Addr} {kvs : List (List Key × V)} {xs : List (List Key × Addr × Value)} (z : kvs.length ≤ sizeLine) (hd : (a == sysModules) = false) (rel : KT H' kvs xs)
    (dd : h'.DictOfH (tupleKind (mixKind P w)) a xs) : ObjOk P w H' h' a (.dT kvs) := by
  obtain ⟨o, es, ep, h1, h2, h3, h4, _, h5⟩ := dd
  exact ⟨z, hd, xs, rel, o, es, ep, h1, h2, h3, h4, h5⟩
section
variable {X : Cx} {pins : List (Addr × Obj)} {σ : L2.St} {H : Hp} {s : Shared}
theorem notMods (I : Inv X pins σ H s) {a : Addr} (h : s.heap.objs.size ≤ a) : (a == sysModules) = false := beq_eq_false_iff_ne.mpr (Nat.ne_of_gt (Nat.lt_of_lt_of_le I.big h))

/-! ### d.setdefault(y, z) -/
theorem d_setdT {a b : Addr} {k : List Key} {kvs : List (List Key × V)} {z : V} {r : Value} {A : Around} {E : Value → Shared → Prop} {Q : Value → Shared → Prop} (hu : A.units + 1 < cLine) (I : Inv X pins σ H s) (e : H a = some (.dT kvs)) (eb : H b = some (.tup (k.map kV))) (rd : RelV z r) (hl : kvs.length < sizeLine)
    (h1 : ∀ v, valV kvs k = some v → ∀ (w' : Value) (s' : Shared), Inv X pins σ H s' → RelV v w' → Q w' s') (h2 : valV kvs k = none → ∀ (s' : Shared), Inv X pins σ (upd H a (.dT (putK kvs k z))) s' → Q r s') :
    wpAny (model X.prog X.w) A (call (.builtin "dict.setdefault") [.ref a, .ref b, r]) Q E s := by
  obtain ⟨zl, hd, xs, rel, dd⟩ := dt_of I.hok e
  have hz : xs.length ≤ sizeLine := by rw [← Paired.length rel]; exact zl
  have rv := rel.val k
  refine call_setdefault_heap (hsz := hz) (tupleKind_room_in1 hu) (key_of I.hok eb) hd dd (fun p hp => ?_) fun hn h' dd' hs => ?_
  · cases q : valV kvs k with
    | none => rw [q, hp] at rv; exact (show False from rv).elim
    | some v => rw [q, hp] at rv; exact h1 v q _ _ (I.tok _) rv
  · cases q : valV kvs k with
    | some v => rw [q, hn] at rv; exact (show False from rv).elim
    | none =>
      have hl2 : (putK kvs k z).length ≤ sizeLine := by
        have := length_putK kvs k z
        omega
      have he : ∃ q, h'.get? a = some q := let ⟨q, _, _, hq, _⟩ := dd'; ⟨q, hq⟩
      exact h2 q _ (d_write I (by rw [e]; exact True.intro) hs he (dtNew hl2 hd ((rel.put k eb rd).keeps fun c ys ec => by rw [upd_ne (ne_of ec e fun z => nomatch z)]; exact ec) dd'))
end
def tSetdT (td ty tx : TE) : TE := fun σ H Q => td σ H fun x H1 => ∃ a, x = .ref a ∧ IsD H1 a ∧ ty σ H1 fun y H2 => tx σ H2 fun z H3 => ∃ (kvs : List (List Key × V)) (k : List Key) (b : Addr), H3 a = some (.dT kvs) ∧ y = .ref b ∧ H3 b = some (.tup (k.map kV)) ∧ kvs.length < sizeLine ∧
  (∀ v, valV kvs k = some v → Q v H3) ∧ (valV kvs k = none → Q z (upd H3 a (.dT (putK kvs k z))))
section
variable {X : Cx} {o e f : Expr} {td ty tx : TE} {apos cpos : Pos}
theorem pe_setdT (hu : X.A.units + 1 < cLine) (ho : PE X o td) (he : PE X e ty) (hf : PE X f tx) (m : M2 X o "setdefault" apos e f cpos) : PE X (.Call (.Attribute o "setdefault" apos) [e, f] [] cpos) (tSetdT td ty tx) := by
  refine ⟨fun pins s σ H Q I h => ?_⟩
  refine wpAny_Call_method m.base m.few m.line PySem.F.plainAttrs_dict PySem.F.slot_dict_setdefault PySem.F.type_dict_setdefault (thn (ho.run pins s σ H _ I h) fun u s1 ⟨x, H1, I1, rx, a, ex, d, q1⟩ => ?_)
  subst ex
  cases (show u = Value.ref a from rx)
  obtain ⟨t1, t2, _⟩ := isD_at I1 d
  refine ⟨t1, t2, ?_⟩
  rw [m.trees]
  refine Calls.callWith_builtin rfl (Calls.evalArgs_plain (Calls.spliced_cons (thn (he.run pins s1 σ H1 _ I1 q1) fun iv s2 ⟨y, H2, I2, ry, q2⟩ =>
    Calls.spliced_cons (thn (hf.run pins s2 σ H2 _ I2 q2) fun fv s3 ⟨z, H3, I3, rz, kvs, k, b, ea, ey, eb, hl, q3, q4⟩ => Calls.spliced_nil ?_))))
  subst ey
  cases (show iv = Value.ref b from ry)
  exact d_setdT hu I3 ea eb rz hl (fun v hv w' s4 I4 rw' => ⟨v, _, I4, rw', q3 v hv⟩) fun hn s4 I4 => ⟨z, _, I4, rz, q4 hn⟩
end

/-! ### {k: v}, k a tuple -/
def tDisp1 (tk tv : TE) : TE := fun σ H Q => ∀ p, H p = none → tk σ (upd H p (.dT [])) fun x H1 => tv σ H1 fun y H2 => ∃ (k : List Key) (b : Addr), x = .ref b ∧ H2 b = some (.tup (k.map kV)) ∧ H2 p = some (.dT []) ∧ Q (.ref p) (upd H2 p (.dT [(k, y)]))
theorem pe_disp1 {X : Cx} {pos : Pos} {ke ve : Expr} {tk tv : TE} (hu : X.A.units + 1 < cLine) (hk : PE X ke tk) (hv : PE X ve tv) : PE X (.Dict [some ke] [ve] pos) (tDisp1 tk tv) := by
  refine ⟨fun pins s σ H Q I q => ?_⟩
  have hn := I.hok.fresh (Nat.le_refl s.heap.objs.size)
  have nm := notMods I (Nat.le_refl _)
  have I1 : Inv X pins σ (upd H s.heap.objs.size (.dT [])) { s with heap := s.heap.push { cls := .type "dict", data := .dict #[] } } :=
    I.laid (t' := s.toks) (fun _ _ e => Heap.get?_push_of_some _ e) (Nat.le_refl _) (dtNew (Nat.zero_le _) nm .nil (Heap.DictOfH.new s.heap))
  rw [arm_eval_Dict, zip_pairTrees [some ke] [ve] X.env pos rfl rfl, dictDisplay_pairs _ (by intro z; exact absurd (congrArg List.length z) (by rw [pairTrees_length _ _ _ _ rfl rfl]; simp)) (by rw [pairTrees_length _ _ _ _ rfl rfl]; simp)]
  refine wpAny_bind (wpAny_standAt (wpAny_bind (wpAny_subDictH (knd := tupleKind (mixKind X.prog X.w)) (Nat.lt_of_succ_lt hu) (by rw [pairTrees_length _ _ _ _ rfl rfl]; simp) ?_)))
  refine pairTrees_cons_walk (thn (hk.run pins _ σ _ _ I1 (q _ hn)) fun u s1 ⟨x, H1, J1, rx, q1⟩ => thn (hv.run pins s1 σ H1 _ J1 q1) fun w2 s2 ⟨y, H2, J2, ry, k, b, ex, eb, ep, q2⟩ => pairTrees_nil_walk ?_)
  subst ex
  cases (show u = Value.ref b from rx)
  obtain ⟨z, hd, xs, rel, dd⟩ := dt_of J2.hok ep
  cases rel
  refine ⟨[(k, b, w2)], ⟨rfl, rfl, key_of J2.hok eb, trivial⟩, dd, fun h' tk dd' hs => wpAny_pure ⟨.ref s.heap.objs.size, _, ?_, rfl, q2⟩⟩
  have he : ∃ q, h'.get? s.heap.objs.size = some q := let ⟨q, _, _, hq, _⟩ := dd'; ⟨q, hq⟩
  exact d_write J2 (by rw [ep]; exact True.intro) hs he (dtNew (by show 1 ≤ sizeLine; decide) hd (.cons ⟨rfl, by rw [upd_ne (ne_of eb ep fun z => nomatch z)]; exact eb, ry⟩ .nil) dd')

/-! ### dict(d), d of one pair -/
theorem cr_dict1 {X : Cx} (hu : X.A.units + 64 < cLine) : CallR X (.type "dict") (fun xs H Q => ∃ (a : Addr) (k : List Key) (v : V), xs = [.ref a] ∧ Rd H a (.dT [(k, v)]) ∧ ∀ p, H p = none → Q (.ref p) (upd H p (.dT [(k, v)]))) := by
  intro pins s σ H xs us Q I r h
  obtain ⟨a, k, v, rfl, hd, q⟩ := h
  obtain ⟨u, rfl, ru⟩ := vals1 r
  cases (show u = Value.ref a from ru)
  obtain ⟨z, lo, ys, rel, dd⟩ := dt_rd I.hok hd
  have hl : ys.length = 1 := (Paired.length rel).symm
  have nm := notMods I (Nat.le_refl _)
  have hn : (ys.map (·.1)).Nodup := dd.nodup
  have ne : s.heap.objs.size ≠ a := by
    obtain ⟨_, _, _, hg, _⟩ := id dd
    exact fun e => absurd (Heap.lt_size hg) (by rw [e]; exact Nat.lt_irrefl _)
  refine callType_codes (Q₁ := fun obj s1 => obj = .ref s.heap.objs.size ∧ s1 = { s with heap := s.heap.push { cls := .type "dict", data := .dict #[] } }) F.kt_called_dict (F.kt_typeCall_dict_1 _) F.entry_dict_init (kt_code_dict_new _ ⟨rfl, rfl⟩) ?_
  rintro obj s1 ⟨rfl, rfl⟩
  have new : (s.heap.push { cls := .type "dict", data := .dict #[] }).DictOfH (tupleKind (mixKind X.prog X.w)) s.heap.objs.size [] := Heap.DictOfH.new s.heap
  have I1 : Inv X pins σ H { s with heap := s.heap.push { cls := .type "dict", data := .dict #[] } } := I.kept fun b o e => Heap.get?_push_of_some _ e
  obtain ⟨_, _, ys', rel', dd'⟩ := dt_rd I1.hok hd
  have dd1 : (s.heap.push { cls := .type "dict", data := .dict #[] }).DictOfH (tupleKind (mixKind X.prog X.w)) a ys := dd.at' (fun o e => Heap.get?_push_of_some _ e) fun y hy => by
    obtain ⟨p, hp, e1, e2, _⟩ : ∃ p, p ∈ [(k, v)] ∧ p.1 = y.1 ∧ H y.2.1 = some (.tup (p.1.map kV)) ∧ RelV p.2 y.2.2 := by
      have key : ∀ {ls : List (List Key × V)} {ms : List (List Key × Addr × Value)}, KT H ls ms → ∀ y ∈ ms, ∃ p, p ∈ ls ∧ p.1 = y.1 ∧ H y.2.1 = some (.tup (p.1.map kV)) ∧ RelV p.2 y.2.2 := by
        intro ls ms m
        induction m with
        | nil => intro y hy; cases hy
        | @cons p q ps qs h t ih =>
          intro y hy
          rcases List.mem_cons.mp hy with e | hy
          · subst e; exact ⟨p, List.mem_cons_self, h⟩
          · obtain ⟨p', h1, h2⟩ := ih y hy
            exact ⟨p', List.mem_cons_of_mem _ h1, h2⟩
      exact key rel y hy
    rw [← e1]
    exact key_of I1.hok e2
  refine ⟨new.typeIs, F.args_dict_init_2 _ _, ?_⟩
  unfold Builtin.«dict.__init__»
  refine wpAny_bind ?_
  unfold Builtin.Dict.selfAndRest
  refine wpAny_bind (wpAny_notOrdered_dict new.typeIs ?_)
  show wpAny _ _ (pure (s.heap.objs.size, [Value.ref a])) _ _ _
  refine wpAny_pure ?_
  show wpAny _ _ (Builtin.Dict.updateFrom "dict.__init__" s.heap.objs.size (.ref a) [] .none) _ _ _
  refine updateFrom_dictH (knd := tupleKind (mixKind X.prog X.w)) (A := X.A.in1) (s := { s with heap := s.heap.push { cls := .type "dict", data := .dict #[] } }) (kvs := []) (more := ys) .none (by show X.A.units + 1 + 1 < cLine; omega) ne lo new dd1 (.inr ⟨fun y hy => ?_, ?_⟩) (by simp [hl]; decide) fun h' d1 d2 hs => ?_
  · obtain ⟨_, _, _, _, _, _, _, his, _⟩ := id dd1
    have it : IsTupleKey (mixKind X.prog X.w) (s.heap.push { cls := .type "dict", data := .dict #[] }) y.1 y.2.1 := his y hy
    exact IsTupleKey.typeIs (s := { s with heap := s.heap.push { cls := .type "dict", data := .dict #[] } }) it
  · match ys, hl with
    | [y], _ => simp
  · refine ⟨rfl, ?_⟩
    rw [storedAllH_nil_of_nodup ys hn] at d1
    refine ⟨.ref s.heap.objs.size, upd H s.heap.objs.size (.dT [(k, v)]), I.laid (t' := s.toks) (fun b o e => (hs.2 b (Nat.ne_of_lt (Heap.lt_size e))).trans (Heap.get?_push_of_some _ e)) (Nat.le_refl _)
      (dtNew z nm (rel.keeps fun c ys ec => by rw [upd_ne (ne_of_none ec (I.hok.fresh (Nat.le_refl _)))]; exact ec) d1), rfl, q _ (I.hok.fresh (Nat.le_refl _))⟩
end Wm
end
section
set_option Elab.async false
set_option linter.all false
set_option maxRecDepth 100000
set_option maxHeartbeats 4000000
/-! Dicts with tuple keys, further: dict of a list of pairs, list of the items, a walk over the items. -/
namespace Wm
open PySem PySem.Spec PyProof.Rows L2
set_option autoImplicit false
/-! ### many things laid at once -/
def layT (H : Hp) : List (Addr × HO) → Hp
  | [] => H
  | p :: r => upd (layT H r) p.1 p.2
theorem layT_off {H : Hp} {b : Addr} : ∀ {l : List (Addr × HO)}, b ∉ l.map (·.1) → layT H l b = H b
  | [], _ => rfl
  | p :: r, h => by
    rw [List.map_cons, List.mem_cons] at h
    show upd (layT H r) p.1 p.2 b = H b
    rw [upd_ne fun z => h (.inl z), layT_off fun z => h (.inr z)]
theorem layT_at {H : Hp} {b : Addr} {o : HO} : ∀ {l : List (Addr × HO)}, (l.map (·.1)).Nodup → (b, o) ∈ l → layT H l b = some o
  | [], _, h => by cases h
  | p :: r, n, h => by
    rw [List.map_cons, List.nodup_cons] at n
    show upd (layT H r) p.1 p.2 b = some o
    rcases List.mem_cons.mp h with e | h
    · rw [← e, upd_same]
    · rw [upd_ne fun z => n.1 (by rw [← z]; exact List.mem_map.mpr ⟨_, h, rfl⟩)]
      exact layT_at n.2 h
theorem layT_inv {H : Hp} {b : Addr} {o : HO} : ∀ {l : List (Addr × HO)}, layT H l b = some o → H b = some o ∨ (b, o) ∈ l
  | [], h => .inl h
  | p :: r, h => by
    have h' : upd (layT H r) p.1 p.2 b = some o := h
    by_cases e : b = p.1
    · rw [e, upd_same] at h'
      have e2 : p.2 = o := Option.some.inj h'
      refine .inr ?_
      rw [e, ← e2]
      exact List.mem_cons_self
    · rw [upd_ne e] at h'
      rcases layT_inv h' with z | z
      · exact .inl z
      · exact .inr (List.mem_cons_of_mem _ z)
theorem paired_map {α β γ : Type} {R : α → β → Prop} {S : γ → β → Prop} {f : α → γ} (h : ∀ a b, R a b → S (f a) b) : ∀ {xs : List α} {ys : List β}, Paired R xs ys → Paired S (xs.map f) ys
  | _, _, .nil => .nil
  | _, _, .cons r t => .cons (h _ _ r) (paired_map h t)
theorem paired_mem {α β : Type} {R : α → β → Prop} : ∀ {xs : List α} {ys : List β}, Paired R xs ys → ∀ {b : β}, b ∈ ys → ∃ a, a ∈ xs ∧ R a b
  | _, _, .cons r t, b, h => by
    rcases List.mem_cons.mp h with e | h
    · rw [e]; exact ⟨_, List.mem_cons_self, r⟩
    · obtain ⟨a, h1, h2⟩ := paired_mem t h
      exact ⟨a, List.mem_cons_of_mem _ h1, h2⟩
theorem paired_memL {α β : Type} {R : α → β → Prop} : ∀ {xs : List α} {ys : List β}, Paired R xs ys → ∀ {a : α}, a ∈ xs → ∃ b, b ∈ ys ∧ R a b
  | _, _, .cons r t, a, h => by
    rcases List.mem_cons.mp h with e | h
    · rw [e]; exact ⟨_, List.mem_cons_self, r⟩
    · obtain ⟨b, h1, h2⟩ := paired_memL t h
      exact ⟨b, List.mem_cons_of_mem _ h1, h2⟩
theorem paired_at {α β : Type} {R : α → β → Prop} : ∀ {xs : List α} {ys : List β} {j : Nat} {a : α} {b : β}, Paired R xs ys → xs[j]? = some a → ys[j]? = some b → R a b
  | _, _, 0, _, _, .cons r t, h1, h2 => by cases h1; cases h2; exact r
  | _, _, j + 1, _, _, .cons r t, h1, h2 => paired_at (j := j) t (by simpa using h1) (by simpa using h2)
  | _, _, _, _, _, .nil, h1, _ => by simp at h1

/-! ### dict(ps), ps a list of pairs, the firsts unlike tuples -/
/-- p is a pair: a tuple with the key's items, a value -/
def PairT (K : PySem.W.Frag) (H : Hp) (p : Addr) (kv : List Key × V) : Prop := ∃ b, SqT K H p [.ref b, kv.2] ∧ H b = some (.tup (kv.1.map kV))
theorem pairs_raw {X : Cx} {pins : List (Addr × Obj)} {σ : L2.St} {H : Hp} {s : Shared} (I : Inv X pins σ H s) : ∀ {ps : List Addr} {kvs : List (List Key × V)}, Paired (PairT X.K H) ps kvs →
    ∃ qs : List (List Key × Addr × Value), KT H kvs qs ∧ Paired (fun p (q : List Key × Addr × Value) => IsTup s.heap p #[.ref q.2.1, q.2.2]) ps qs
  | _, _, .nil => ⟨[], .nil, .nil⟩
  | _, _, .cons (b := kv) ⟨b, h1, h2⟩ t => by
    obtain ⟨qs, r1, r2⟩ := pairs_raw I t
    obtain ⟨its, rv, ht, _⟩ := I.tuple h1
    obtain ⟨u, v, rfl, ru, rv2⟩ := vals2 rv
    cases (show u = Value.ref b from ru)
    exact ⟨(kv.1, b, v) :: qs, .cons ⟨rfl, h2, rv2⟩ r1, .cons ht r2⟩
theorem cr_dictP {X : Cx} (hc : X.calm = true) (hu : X.A.units + 64 < cLine) : CallR X (.type "dict") (fun xs H Q => ∃ (a : Addr) (ps : List Addr) (kvs : List (List Key × V)), xs = [.ref a] ∧ SqL X.K H a (ps.map V.ref) ∧ Paired (PairT X.K H) ps kvs ∧ (kvs.map (·.1)).Nodup ∧
    ∀ p, H p = none → Q (.ref p) (upd H p (.dT kvs))) := by
  intro pins s σ H xs us Q I r h
  obtain ⟨a, ps, kvs, rfl, hq, hp, nd, q⟩ := h
  obtain ⟨u, rfl, ru⟩ := vals1 r
  cases (show u = Value.ref a from ru)
  obtain ⟨its, rv, pl, hz⟩ := I.list hq
  obtain ⟨qs, r1, r2⟩ := pairs_raw I hp
  have l1 : kvs.length = qs.length := Paired.length r1
  have l2 : ps.length = qs.length := Paired.length r2
  have ei : its = ps.map Value.ref := by
    have key : ∀ {ls : List Addr} {us : List Value}, Vals (ls.map V.ref) us → us = ls.map Value.ref := by
      intro ls
      induction ls with
      | nil => intro us r; cases r; rfl
      | cons l ls ih =>
        intro us r
        cases r with
        | cons r t => cases r; rw [ih t]; rfl
    exact key rv
  subst ei
  rw [List.length_map] at hz
  have kk : kvs.map (·.1) = qs.map (·.1) := by
    have key : ∀ {ls : List (List Key × V)} {ms : List (List Key × Addr × Value)}, KT H ls ms → ls.map (·.1) = ms.map (·.1) := by
      intro ls ms m
      induction m with
      | nil => rfl
      | cons h t ih => rw [List.map_cons, List.map_cons, ih, h.1]
    exact key r1
  have ndq : (qs.map (·.1)).Nodup := by rw [← kk]; exact nd
  obtain ⟨o, n, ho, hcl, hdn, hdt⟩ := pl
  have at2 : ∀ (j : Nat) (k v : Value), ((qs.map fun q => (Value.ref q.2.1, q.2.2)) : List (Value × Value))[j]? = some (k, v) → ∃ q, qs[j]? = some q ∧ k = .ref q.2.1 ∧ v = q.2.2 := fun j k v e => by
    rw [List.getElem?_map] at e
    cases e2 : qs[j]? with
    | none => rw [e2] at e; cases e
    | some q =>
      rw [e2] at e
      have e3 : (Value.ref q.2.1, q.2.2) = (k, v) := Option.some.inj e
      injection e3 with e3 e4
      exact ⟨q, rfl, e3.symm, e4.symm⟩
  refine call_dict_pairsH (knd := tupleKind (mixKind X.prog X.w)) (ps := qs) (PairArg.list a (ps.map Value.ref).toArray (fun j => ps.getD j 0) (qs.map fun q => (Value.ref q.2.1, q.2.2))) (I.ok.hd hc) (by show X.A.units + 1 + 1 < cLine; omega) ⟨⟨o, n, ho, hcl, hdn, hdt⟩, by simp [l2], fun j k v e => ?_⟩ ⟨by simp, fun j k v e => ?_⟩ (fun h' hk x hx => ?_) (by rw [List.length_map, ← l2]; exact hz) fun h' tk dd hk => ?_
  · obtain ⟨q, e1, e2, e3⟩ := at2 j k v e
    have hj : j < ps.length := by rw [l2]; exact (List.getElem?_eq_some_iff.mp e1).1
    have hp' : ps[j]? = some ps[j] := List.getElem?_eq_getElem hj
    have ht := paired_at r2 hp' e1
    have eg : ps.getD j 0 = ps[j] := by rw [List.getD_eq_getElem?_getD, hp']; rfl
    refine ⟨by simp [hp', eg], ?_⟩
    show PairAt s.heap (ps.getD j 0) k v
    rw [eg, e2, e3]
    exact .inl ht
  · obtain ⟨q, e1, e2, e3⟩ := at2 j k v e
    exact ⟨q.1, q.2.1, by rw [e1, e3], e2⟩
  · obtain ⟨p, hp1, e1, e2, _⟩ := paired_mem r1 hx
    have kq := key_of I.hok e2
    rw [← e1]
    obtain ⟨ob, its2, m, g1, g2, g3, g4⟩ := (show IsTupleKey (mixKind X.prog X.w) s.heap p.1 x.2.1 from kq)
    exact (show IsTupleKey (mixKind X.prog X.w) h' p.1 x.2.1 from ⟨ob, its2, m, hk _ _ (Nat.ne_of_lt (Heap.lt_size g1)) (by simp) g1, g2, g3, g4⟩)
  · have dd2 : h'.DictOfH (tupleKind (mixKind X.prog X.w)) s.heap.objs.size qs := by
      have e := storedAllH_nil_of_nodup qs ndq
      rw [e] at dd
      exact dd
    have kp : ∀ b o, s.heap.get? b = some o → h'.get? b = some o := fun b o e => hk b o (by simp) e
    exact ⟨.ref s.heap.objs.size, upd H s.heap.objs.size (.dT kvs), I.laid (t' := tk) kp (Nat.le_refl _) (dtNew (by omega) (notMods I (Nat.le_refl _)) (r1.keeps fun c ys ec => by rw [upd_ne (ne_of_none ec (I.hok.fresh (Nat.le_refl _)))]; exact ec) dd2), rfl, q _ (I.hok.fresh (Nat.le_refl _))⟩

/-! ### list(e.items()) -/
def tListIt (te : TE) : TE := fun σ H Q => te σ H fun x H1 => ∃ (d : Addr) (kvs : List (List Key × V)), x = .ref d ∧ H1 d = some (.dT kvs) ∧
  ∀ (H' : Hp) (p : Addr) (ts : List Addr), Same H1 H' → H1 p = none → H' p = some (.lst (ts.map V.ref)) → Paired (fun (t : Addr) (q : List Key × V) => ∃ b, H' t = some (.tup [.ref b, q.2]) ∧ H' b = some (.tup (q.1.map kV))) ts kvs → Q (.ref p) H'
theorem pe_listIt {X : Cx} {e : Expr} {te : TE} {p apos cpos pos : Pos} (hc : X.calm = true) (he : PE X e te) (hg : Gl X "list") (hm : X.mg "list" = none) (hv : bootBuiltins "list" = some (.type "list")) (hbase : attributeBase e "items" X.env (eval e X.env) = eval e X.env := by rfl) (hline : (apos.endLine == cpos.line) = true := by rfl)
    (hs : starEach [.Call (.Attribute e "items" apos) [] [] cpos] X.env = (false, eval (.Call (.Attribute e "items" apos) [] [] cpos) X.env) :: starEach [] X.env := by rfl) :
    PE X (.Call (.Name "list" p) [.Call (.Attribute e "items" apos) [] [] cpos] [] pos) (tListIt te) := by
  refine ⟨fun pins s σ H Q I hq => ?_⟩
  refine wpAny_Call_Name_kw (ld_blt I hg hm hv ?_)
  refine PyProof.Rows.callWith_type1 ?_ hs rfl
  rw [hs]
  show wpAny _ _ (spliced ((false, eval (.Call (.Attribute e "items" apos) [] [] cpos) X.env) :: backTo pos (starEach [] X.env))) _ X.xe s
  refine Calls.spliced_cons ?_
  refine wpAny_Call_method (T := "dict") (id := "dict.items") hbase rfl hline F.plainAttrs_dict F.slot_dict_items F.type_dict_items (thn (he.run pins s σ H _ I hq) fun u s1 ⟨x, H1, I1, rx, d, kvs, ex, hd, q⟩ => ?_)
  subst ex
  cases (show u = Value.ref d from rx)
  obtain ⟨hz, hs0, xs, pr, o, es, ep, ho, hx, hdt, hes, hn⟩ := (show ObjOk X.prog X.w H1 s1.heap d (.dT kvs) from I1.hok d _ hd)
  have l1 : es.size = xs.length := size_of_entries hes
  have l2 : kvs.length = xs.length := Paired.length pr
  have raw : s1.heap.DictRaw d es ep := ⟨o, ho, hx, hdt⟩
  refine ⟨raw.typeIs, fun b z => ?_, ?_⟩
  · cases z
    exact ⟨o, ho, hx.2.1⟩
  show wpAny _ _ (callWith cpos (.builtin "dict.items") [.ref d] [] []) _ X.xe s1
  refine method_meetsIn F.slot_dict_items F.entry_dict_items rfl (PySem.evalArgs_none ⟨rfl, raw.typeIs, F.args_dict_items_1 _, _, meets_dict_items_raw d hs0, ⟨es, ep, raw⟩, ?_⟩)
  refine Calls.spliced_nil ?_
  have I2 : Inv X pins σ H1 { s1 with heap := s1.heap.push { cls := .type "dict_items", data := .fields #[.ref d] } } := I1.kept (t' := s1.toks) fun b ob q => Heap.get?_push_of_some _ q
  refine PySem.W.dil_call (s := { s1 with heap := s1.heap.push { cls := .type "dict_items", data := .fields #[.ref d] } }) (es := es) (ep := ep) (d := d) (I1.ok.hd hc) ⟨_, Heap.get?_push_size _ rfl, rfl, rfl⟩ (raw.at fun _ e => Heap.get?_push_of_some _ e) (by omega) fun h' tk acc c as hk hS hl hG hacc => ?_
  generalize hsz : (s1.heap.push { cls := .type "dict_items", data := .fields #[.ref d] }).objs.size = S at hS hG ⊢
  have ndA : as.Nodup := List.Pairwise.imp (fun {a b} (h : a < b) => Nat.ne_of_lt h) hG.rise
  have sA : S ∉ as := fun z => Nat.lt_irrefl _ (hG.above _ z)
  -- the new things
  have la : as.length = xs.length := by rw [hl, l1]
  generalize hnw : ((S, HO.lst (as.map V.ref)) :: (as.zip (kvs.zip xs)).map fun z => (z.1, HO.tup [V.ref z.2.2.2.1, z.2.1.2])) = news
  have keysN : news.map (·.1) = S :: as := by
    rw [← hnw, List.map_cons, List.map_map]
    have e : ((as.zip (kvs.zip xs)).map ((fun p : Addr × HO => p.1) ∘ fun z => (z.1, HO.tup [V.ref z.2.2.2.1, z.2.1.2]))) = (as.zip (kvs.zip xs)).map (·.1) := rfl
    rw [e, List.map_fst_zip (by rw [List.length_zip]; omega)]
  have ndN : (news.map (·.1)).Nodup := by rw [keysN]; exact List.nodup_cons.mpr ⟨sA, ndA⟩
  have hiN : ∀ b ∈ news.map (·.1), S ≤ b := fun b hb => by
    rw [keysN] at hb
    rcases List.mem_cons.mp hb with z | z
    · rw [z]; exact Nat.le_refl _
    · exact Nat.le_of_lt (hG.above b z)
  have freeN : ∀ b ∈ news.map (·.1), H1 b = none := fun b hb => I2.hok.fresh (by show (s1.heap.push _).objs.size ≤ b; rw [hsz]; exact hiN b hb)
  have same : Same H1 (layT H1 news) := fun b o e => by
    rw [layT_off fun z => by rw [freeN b z] at e; cases e]
    exact e
  have atS : layT H1 news S = some (.lst (as.map V.ref)) := layT_at ndN (by rw [← hnw]; exact List.mem_cons_self)
  -- the j-th pair
  have pj : ∀ (j : Nat) (t : Addr) (kv : List Key × V), as[j]? = some t → kvs[j]? = some kv → ∃ x, xs[j]? = some x ∧ layT H1 news t = some (.tup [.ref x.2.1, kv.2]) ∧ H1 x.2.1 = some (.tup (kv.1.map kV)) ∧ RelV kv.2 x.2.2 ∧
      h'.get? t = some { cls := .type "tuple", data := .seq #[.ref x.2.1, x.2.2] } := fun j t kv e1 e2 => by
    obtain ⟨x, e3, e4, e5, e6⟩ := L2.paired_get pr e2
    obtain ⟨hj, e7⟩ := hG.pairs j t e1
    have e8 := entry_at hes j
    rw [e3, Array.getElem?_eq_getElem hj] at e8
    have e9 : es[j] = entryOfKey (tupleKind (mixKind X.prog X.w)) x := Option.some.inj e8
    rw [e9] at e7
    refine ⟨x, e3, layT_at ndN ?_, e5, e6, e7⟩
    rw [← hnw]
    refine List.mem_cons_of_mem _ (List.mem_map.mpr ⟨(t, kv, x), ?_, rfl⟩)
    refine List.mem_iff_getElem?.mpr ⟨j, ?_⟩
    rw [List.getElem?_zip_eq_some]
    refine ⟨e1, ?_⟩
    rw [List.getElem?_zip_eq_some]
    exact ⟨e2, e3⟩
  have I3 : Inv X pins σ (layT H1 news) { s1 with heap := h', toks := tk } := by
    refine grow (s := { s1 with heap := s1.heap.push { cls := .type "dict_items", data := .fields #[.ref d] } }) I2 hk same fun b u e => ?_
    rcases layT_inv e with z | z
    · exact .inl z
    · refine .inr ⟨by show (s1.heap.push _).objs.size ≤ b; rw [hsz]; exact hiN b (List.mem_map.mpr ⟨_, z, rfl⟩), ?_⟩
      rw [← hnw] at z
      rcases List.mem_cons.mp z with z | z
      · injection z with z1 z2
        subst z1
        subst z2
        have key : ∀ ls : List Addr, Vals (ls.map V.ref) (ls.map Value.ref) := fun ls => by
          induction ls with
          | nil => exact .nil
          | cons l ls ih => exact .cons rfl ih
        refine ⟨by rw [List.length_map]; omega, acc.toList, c, by rw [hacc]; exact key as, ?_⟩
        rw [Array.toArray_toList]
        exact hS
      · obtain ⟨⟨t, kv, x⟩, hm, e2⟩ := List.mem_map.mp z
        obtain ⟨j, hj⟩ := List.mem_iff_getElem?.mp hm
        rw [List.getElem?_zip_eq_some] at hj
        have hj2 := hj.2
        rw [List.getElem?_zip_eq_some] at hj2
        obtain ⟨x', f1, f2, f3, f4, f5⟩ := pj j t kv hj.1 hj2.1
        rw [hj2.2] at f1
        have ex : x = x' := Option.some.inj f1
        subst ex
        injection e2 with e3 e4
        subst e3
        subst e4
        exact ⟨by show 2 ≤ sizeLine; decide, [.ref x.2.1, x.2.2], .cons rfl (.cons f4 .nil), ⟨_, f5, rfl, _, rfl⟩⟩
  refine ⟨.ref S, layT H1 news, I3, rfl, q _ S as same (freeN S (by rw [keysN]; exact List.mem_cons_self)) atS ?_⟩
  have build : ∀ (ls : List Addr) (ms : List (List Key × V)) (n : Nat), ls.length = ms.length → (∀ j t kv, ls[j]? = some t → ms[j]? = some kv → as[n + j]? = some t ∧ kvs[n + j]? = some kv) →
      Paired (fun (t : Addr) (q : List Key × V) => ∃ b, layT H1 news t = some (.tup [.ref b, q.2]) ∧ layT H1 news b = some (.tup (q.1.map kV))) ls ms := by
    intro ls
    induction ls with
    | nil =>
      intro ms n hl _
      cases ms with
      | nil => exact .nil
      | cons _ _ => simp at hl
    | cons t ls ih =>
      intro ms n hl hat
      cases ms with
      | nil => simp at hl
      | cons kv ms =>
        refine .cons ?_ (ih ms (n + 1) (by simpa using hl) fun j t' kv' e1 e2 => ?_)
        · obtain ⟨a1, a2⟩ := hat 0 t kv rfl rfl
          obtain ⟨x, _, f2, f3, _, _⟩ := pj _ t kv a1 a2
          exact ⟨x.2.1, f2, same _ _ f3⟩
        · have := hat (j + 1) t' kv' (by simpa using e1) (by simpa using e2)
          rw [show n + 1 + j = n + (j + 1) by omega]
          exact this
  exact build as kvs 0 (by omega) fun j t kv e1 e2 => by rw [Nat.zero_add]; exact ⟨e1, e2⟩

/-! ### for k, v in e.items(): the dict is locked from its evaluation on -/
def Itit (d : Addr) (o : Obj) (kvs : List (List Key × V)) : It :=
  ⟨fun i H => H d = some (.frz o (.dT kvs)) ∧ i < kvs.length, fun i H x H' => ∃ T k v q, kvs[i]? = some (k, v) ∧ x = .ref T ∧ H T = none ∧ H q = some (.tup (List.map kV k)) ∧ H' = upd H T (.tup [.ref q, v]), fun i H => H d = some (.frz o (.dT kvs)) ∧ kvs.length ≤ i⟩
theorem frz_items {X : Cx} {pins : List (Addr × Obj)} {σ : L2.St} {H : Hp} {s : Shared} {d : Addr} {o : Obj} {kvs : List (List Key × V)} (I : Inv X pins σ H s) (h : H d = some (.frz o (.dT kvs))) :
    (d == sysModules) = false ∧ s.heap.get? d = some o ∧ o.ExactDict ∧ ∃ (es : Array DictEntry) (ep : Nat), o.data = .dict es ep ∧ es.size = kvs.length ∧
      ∀ (i : Nat) (k : List Key) (v : V), kvs[i]? = some (k, v) → ∃ (q : Addr) (u : Value) (hi : i < es.size), es[i].key = .ref q ∧ es[i].val = u ∧ RelV v u ∧ H q = some (.tup (k.map kV)) := by
  obtain ⟨hd, z, hs, xs, pr, o', es, ep, ho, hx, hdt, he, _⟩ := I.hok d _ h
  rw [hd] at ho
  cases ho
  have l1 : es.size = xs.length := size_of_entries he
  have l2 : kvs.length = xs.length := Paired.length pr
  refine ⟨hs, hd, hx, es, ep, hdt, by omega, fun i k v e => ?_⟩
  obtain ⟨x, hb, _, e2, e3⟩ := L2.paired_get pr e
  have hi : i < es.size := by rw [l1]; exact (List.getElem?_eq_some_iff.mp hb).1
  have q := entry_at he i
  rw [hb, Array.getElem?_eq_getElem hi] at q
  have e9 : es[i] = entryOfKey (tupleKind (mixKind X.prog X.w)) x := Option.some.inj q
  refine ⟨x.2.1, x.2.2, hi, by rw [e9]; rfl, by rw [e9]; rfl, e3, e2⟩
theorem turn_itemsT {P : Program} {w : World} {K : PySem.W.Frag} {d : Addr} {o : Obj} {es : Array DictEntry} {ep : Nat} {kvs : List (List Key × V)} {elts : List Expr} {kk : Nat} {tpos : Pos} (it : Addr) (hod : o.data = .dict es ep) :
    Turn P w K (.Tuple elts kk tpos) (Itit d o kvs) [it] it (fun i h => ∃ ok ov, IsItemIter h it d i kvs.length ep ok ov) where
  mem := List.mem_singleton.mpr rfl
  obj := fun i h ⟨ok, ov, e⟩ b hb => by
    rw [List.mem_singleton.mp hb]
    exact ⟨_, e, fun v z => nomatch z⟩
  keep := fun i h h' ⟨ok, ov, e⟩ k => ⟨ok, ov, k it (List.mem_singleton.mpr rfl) _ e⟩
  item := by
    intro X hP hw hK hc i pins s σ H E I hf ⟨ok, ov, he⟩ ⟨hd, hi⟩
    subst hP hw hK
    obtain ⟨hs, hgd, hx, es', ep', hdt, hsz, ent⟩ := frz_items I hd
    obtain ⟨rfl, rfl⟩ := dict_ep hod hdt
    obtain ⟨⟨k, v⟩, hkv⟩ : ∃ p, kvs[i]? = some p := ⟨kvs[i], List.getElem?_eq_getElem hi⟩
    obtain ⟨q, u, hie, e1, e2, e3, e4⟩ := ent i k v hkv
    rw [← hsz] at he
    have hlt : it < s.heap.objs.size := Heap.lt_size he
    refine wpAny_pyNext_items_item_raw he ⟨o, hgd, hx, hdt⟩ hie fun h' ho hT hz hk => ?_
    refine ⟨_, rfl, wpAny_letOwnedTupleGo_items (s := { s with heap := h' }) ho fun h'' he' sb => ?_⟩
    have hT2 : h''.get? s.heap.objs.size = some { cls := .type "tuple", data := .seq #[.ref q, u] } := by
      rw [← e1, ← e2]
      exact (sb.2 _ (Nat.ne_of_gt hlt)).trans hT
    have I1 : Inv X pins σ (upd H s.heap.objs.size (.tup [.ref q, v])) { s with heap := h'' } :=
      I.turnedNew (t' := s.toks) (ch := [it]) (fun b ob hb e => (sb.2 b fun z => hb (List.mem_singleton.mpr z)).trans (hk b ob (fun z => hb (List.mem_singleton.mpr z)) e)) hf (Nat.le_refl _)
        ⟨by show 2 ≤ sizeLine; decide, [.ref q, u], .cons rfl (.cons e3 .nil), ⟨_, hT2, rfl, _, rfl⟩⟩
    refine ⟨.ref s.heap.objs.size, _, I1, rfl, ⟨_, k, v, q, hkv, rfl, I.hok.fresh (Nat.le_refl _), e4, rfl⟩, ⟨_, _, by rw [← hsz]; exact he'⟩, fun b hb => ?_⟩
    rw [List.mem_singleton.mp hb, upd_ne (Nat.ne_of_lt hlt)]
    exact (hf it (List.mem_singleton.mpr rfl)).1
  done := by
    intro X hP hw hK hc i pins s σ H E I hf ⟨ok, ov, he⟩ ⟨hd, hi⟩
    subst hP hw hK
    obtain ⟨f0, f1, f2, f3, f4, f5⟩ := hf it (List.mem_singleton.mpr rfl)
    obtain ⟨hs, hgd, hx, es', ep', hdt, hsz, ent⟩ := frz_items I hd
    obtain ⟨rfl, rfl⟩ := dict_ep hod hdt
    rw [← hsz] at he
    exact wpAny_pyNext_items_end_raw (I.ok.hd hc) he ⟨o, hgd, hx, hdt⟩ (by rw [hsz]; exact hi) fun h' eb => ⟨rfl, I.turned (t' := s.toks) (fun b ob hb e => eb b ob hb e) f0 f1 f3 f4 f5⟩
  self := fun A i s Q E ⟨_, _, e⟩ h => PySem.W.kcp_self e h
/-- the dict is locked here; behind the loop ps_unl unlocks it -/
def iItT (H0 : Hp) (td : TE) : TI := fun σ H R => td σ H fun x H1 => ∃ (d : Addr) (kvs : List (List Key × V)), x = .ref d ∧ H1 d = some (.dT kvs) ∧ ∀ od, (∀ o' u', H0 d ≠ some (.frz o' u')) → R (Itit d od kvs) (upd H1 d (.frz od (.dT kvs)))
theorem pi_itT {X : Cx} {e : Expr} {td : TE} {apos cpos tpos : Pos} {elts : List Expr} {kk : Nat} (he : PE X e td) (hbase : attributeBase e "items" X.env (eval e X.env) = eval e X.env := by rfl) (hline : (apos.endLine == cpos.line) = true := by rfl) :
    PI X (.Tuple elts kk tpos) (.Call (.Attribute e "items" apos) [] [] cpos) (iItT X.H_0 td) := by
  refine ⟨fun pins s σ H R I h => ?_⟩
  refine wpAny_Call_method (T := "dict") (id := "dict.items") hbase rfl hline F.plainAttrs_dict F.slot_dict_items F.type_dict_items (thn (he.run pins s σ H _ I h) fun u s1 ⟨x, H1, I1, rx, d, kvs, ex, hd, q⟩ => ?_)
  subst ex
  cases (show u = Value.ref d from rx)
  have nf := I1.nofrz hd True.intro
  obtain ⟨od, J⟩ := I1.lock hd True.intro
  have q := q od nf
  obtain ⟨hs, hgd, hx, es, ep, hdt, hsz, ent⟩ := frz_items J upd_same
  have raw : s1.heap.DictRaw d es ep := ⟨od, hgd, hx, hdt⟩
  refine ⟨raw.typeIs, fun b z => ?_, ?_⟩
  · cases z
    exact ⟨od, hgd, hx.2.1⟩
  have J2 : Inv X pins σ (upd H1 d (.frz od (.dT kvs))) { s1 with heap := s1.heap.push { cls := .type "dict_items", data := .fields #[.ref d] } } := J.kept (t' := s1.toks) fun b ob q => Heap.get?_push_of_some _ q
  show wpAny _ _ (callWith cpos (.builtin "dict.items") [.ref d] [] []) _ X.xe s1
  refine method_meetsIn F.slot_dict_items F.entry_dict_items rfl (PySem.evalArgs_none ⟨rfl, raw.typeIs, F.args_dict_items_1 _, _, meets_dict_items_raw d hs, ⟨es, ep, raw⟩, ?_⟩)
  refine wpAny_pyIter_items_raw (d := d) ⟨_, Heap.get?_push_size _ rfl, rfl, rfl⟩ (raw.at fun _ e => Heap.get?_push_of_some _ e) (pi_one (tk := s1.toks) J2 _ (turn_itemsT _ hdt) ⟨.none, .none, ?_⟩ q)
  rw [← hsz]
  exact Heap.get?_push_size _ rfl
/-- behind the statement what is locked at d is unlocked -/
def tUnl (H0 : Hp) (t : TS) : TS := fun D σ H => t { D with nx := fun σ' H' => ∃ d od u, H' d = some (.frz od u) ∧ (∀ o' u', H0 d ≠ some (.frz o' u')) ∧ D.nx σ' (upd H' d u) } σ H
theorem ps_unl {X : Cx} {st : Stmt} {t : TS} (h : PS X st t) : PS X st (tUnl X.H_0 t) := by
  refine ⟨fun pins s σ H D I hw => thn (h.run pins s σ H _ I hw) fun f s1 q => ?_⟩
  cases f with
  | next =>
    obtain ⟨σ', H', I2, d, od, u, e, nf, q⟩ := q
    exact ⟨σ', _, I2.unlock e nf, q⟩
  | brk => exact q
  | cont => exact q
  | ret v => exact q
end Wm
end
section
set_option Elab.async false
set_option linter.all false
set_option maxRecDepth 100000
set_option maxHeartbeats 4000000
/-! {k: v for ..}, the keys tuples. -/
namespace Wm
open PySem PySem.Spec PyProof.Rows L2
set_option autoImplicit false
section
variable {X : Cx}
theorem put_dT {pins : List (Addr × Obj)} {σ : L2.St} {H : Hp} {s : Shared} {E : Value → Shared → Prop} {D b : Addr} {kvs : List (List Key × V)} {k : List Key} {v : V} {r : Value} {Q : Unit → Shared → Prop} (hu : X.A.units < cLine) (I : Inv X pins σ H s) (hD : H D = some (.dT kvs)) (hz : kvs.length < sizeLine)
    (hb : H b = some (.tup (k.map kV))) (rv : RelV v r) (h : ∀ z, Inv X pins σ (upd H D (.dT (putK kvs k v))) z → Q () z) : wpAny (model X.prog X.w) X.A (dictSet D (.ref b) r) Q E s := by
  obtain ⟨zl, hd, xs, rel, dd⟩ := dt_of I.hok hD
  have hl : (putK kvs k v).length ≤ sizeLine := by
    have := length_putK kvs k v
    omega
  refine wpAny_dictSet_heap (hsz := by rw [← Paired.length rel]; exact zl) hu (key_of I.hok hb) dd fun g dd' hs => h _ ?_
  have he : ∃ q, g.get? D = some q := let ⟨q, _, _, hq, _⟩ := dd'; ⟨q, hq⟩
  exact d_write I (by rw [hD]; exact True.intro) hs he (dtNew hl hd ((rel.put k hb rv).keeps fun c ys ec => by rw [upd_ne (ne_of ec hD fun z => nomatch z)]; exact ec) dd')
/-- {k: v for target in iter}: D the new dict, its keys tuples -/
def tDcT (wi : TI) (g : TG) (tk tv : TE) (vs : List Nat) : TE := fun σ H Q => wi σ H fun J H1 => ∀ D, H1 D = none → ∃ W : Nat → Nat → Hp → Prop, (∃ m, W 0 m (upd H1 D (.dT []))) ∧ ∀ i m H, W i m H →
  (J.stop i H ∧ Q (.ref D) H) ∨ (J.go i H ∧ ∃ Nx : Hp → Prop, (∀ H', Nx H' → ∃ m', m' < m ∧ W (i + 1) m' H') ∧ ∀ x H', J.yld i H x H' → g x (wipe σ vs) H' fun σ2 H2 => wipe σ2 vs = wipe σ vs ∧
    tk σ2 H2 fun y H4 => tv σ2 H4 fun z H5 => ∃ kvs k b, y = .ref b ∧ H5 b = some (.tup (k.map kV)) ∧ H5 D = some (.dT kvs) ∧ kvs.length < sizeLine ∧ Nx (upd H5 D (.dT (putK kvs k z))))
theorem pe_dcT {kx vx tg it : Expr} {sc : Scope} {own : List (Str × Nat)} {pos : Pos} {wi : TI} {g : TG} {tk tv : TE} (hu : X.A.units < cLine) (hc : X.calm = true) (hN : X.N.Nodup) (hi : PI X tg it wi) (ok : BlkOk X.N X.env.scope sc own)
    (hg : ∀ (a : Shared) (B : Hp) (C : Addr) (cl : List (Str × Addr)) (fp : List Addr), PG (X.blk a B sc (compEnvC sc cl C X.env) fp) tg g)
    (hk : ∀ (a : Shared) (B : Hp) (C : Addr) (cl : List (Str × Addr)) (fp : List Addr), PE (X.blk a B sc (compEnvC sc cl C X.env) fp) kx tk)
    (hv : ∀ (a : Shared) (B : Hp) (C : Addr) (cl : List (Str × Addr)) (fp : List Addr), PE (X.blk a B sc (compEnvC sc cl C X.env) fp) vx tv) (hf : ∀ x, foldedSetIterable it X.env x = pure x := by intro _; rfl) :
    PE X (.DictComp kx vx [⟨tg, it, [], 0⟩] sc pos) (tDcT wi g tk tv (own.map (·.2))) := by
  refine ⟨fun pins s σ H Q I h => ?_⟩
  rw [arm_eval_DictComp]
  have cells : ∀ y ∈ sc.names, y.2 = .free → ∃ c, X.env.cells.lookup y.1 = some c := fun y hy e => (ok.free y hy e).elim (fun z => I.ok.has _ (.inl z)) fun z => I.ok.has _ (.inr z)
  refine wpAny_comprehension_free (use := none) rfl hf (closure_ok cells) ok.kind (fun y hy e => by rw [ok.uniq y hy, e]) (thn (hi.run pins s σ H _ I h) fun xv s1 hx => thn hx fun itv s2 h2 => ?_)
  obtain ⟨ia, fp, tn, J, H2, rfl, I2, TU, st2, f2, q⟩ := h2
  refine wpAny_newObj_type (newEnv_comp ?_)
  generalize hD : s2.heap.objs.size = D
  have hDn : H2 D = none := I2.hok.fresh (Nat.le_of_eq hD)
  obtain ⟨W, ⟨m0, w0⟩, turn⟩ := q D hDn
  generalize hs3 : ({ s2 with heap := s2.heap.push { cls := .type "dict", data := .dict #[] } } : Shared) = s3
  have h3 : s3.heap = s2.heap.push { cls := .type "dict", data := .dict #[] } := by rw [← hs3]
  have I3 : Inv X pins σ (upd H2 D (.dT [])) s3 := by
    rw [← hs3]
    refine I2.laid (t' := s2.toks) (fun b o e => Heap.get?_push_of_some _ e) (Nat.le_of_eq hD) ?_
    rw [← hD]
    exact dtNew (Nat.zero_le _) (notMods I2 (Nat.le_refl _)) .nil (Heap.DictOfH.new s2.heap)
  have low : ∀ b ∈ fp, b < s2.heap.objs.size := fun b hb => let ⟨_, e, _⟩ := TU.obj _ _ st2 b hb; Heap.lt_size e
  have f3 : ∀ b ∈ fp, FpOk X pins (upd H2 D (.dT [])) b ∧ b < s3.heap.objs.size := fun b hb => by
    have nb : b ≠ D := by rw [← hD]; exact Nat.ne_of_lt (low b hb)
    exact ⟨⟨by rw [upd_ne nb]; exact (f2 b hb).1, (f2 b hb).2⟩, by rw [h3, Heap.size_push]; exact Nat.lt_succ_of_lt (low b hb)⟩
  have st3 : tn 0 s3.heap := TU.keep _ _ _ st2 fun b _ o e => by rw [h3]; exact Heap.get?_push_of_some _ e
  have I4 := block_start I3 ok hN f3
  have pG := hg s3 (upd H2 D (.dT [])) s3.heap.objs.size (cellsFrom (s3.heap.objs.size + 1) sc.names (cloFrom X.env.cells sc.names [])) fp
  have pK := hk s3 (upd H2 D (.dT [])) s3.heap.objs.size (cellsFrom (s3.heap.objs.size + 1) sc.names (cloFrom X.env.cells sc.names [])) fp
  have pV := hv s3 (upd H2 D (.dT [])) s3.heap.objs.size (cellsFrom (s3.heap.objs.size + 1) sc.names (cloFrom X.env.cells sc.names [])) fp
  show codeAny _ _ (.compStart (.DictComp kx vx [⟨tg, it, [], 0⟩] sc pos) 0 (.ref ia) (.ref D) (compEnvC sc (cellsFrom (s3.heap.objs.size + 1) sc.names (cloFrom X.env.cells sc.names [])) s3.heap.objs.size X.env)) (compPost (model X.prog X.w) X.A X.xe none _ (.ref D) s3.heap.objs.size) { s3 with heap := pushCells (s3.heap.push { cls := .type "dict", data := .dict #[] }) sc.names }
  have free3 : ∀ b ∈ fp, (upd H2 D (.dT [])) b = none := fun b hb => (f3 b hb).1.1
  generalize hce : compEnvC sc (cellsFrom (s3.heap.objs.size + 1) sc.names (cloFrom X.env.cells sc.names [])) s3.heap.objs.size X.env = ce at I4 pG pK pV ⊢
  have cL : ce.locals = s3.heap.objs.size := by subst hce; rfl
  generalize hH3 : upd H2 D (.dT []) = H3 at I3 I4 pG pK pV w0 free3 f3
  generalize hs4 : ({ s3 with heap := pushCells (s3.heap.push { cls := .type "dict", data := .dict #[] }) sc.names } : Shared) = s4 at I4 ⊢
  have st4 : tn 0 s4.heap := TU.keep _ _ _ st3 fun b _ o e => by rw [← hs4]; exact pushCells_keeps _ _ _ _ (Heap.get?_push_of_some _ e)
  have foot : ∀ {σ' : L2.St} {B : Hp} {z : Shared}, Inv (X.blk s3 H3 sc ce fp) [] σ' B z → (∀ b ∈ fp, B b = none) → ∀ b ∈ fp, FpOk (X.blk s3 H3 sc ce fp) [] B b := fun {σ' B z} J' hn b hb =>
    ⟨hn b hb, (J'.ok.exf b hb).1, J'.ok.exfs b hb, .inl hb, fun x c e => (J'.ok.exf b hb).2 x c e, fun p hp => absurd (show p ∈ ([] : List (Addr × Obj)) ++ [] from hp) (by simp)⟩
  refine codeAny_compStart_dict ?_ (TU.self X.A 0 _ _ _ st4 ?_) <;>
  · refine compLoop_anyD (fun n z => ∃ i B, Inv (X.blk s3 H3 sc ce fp) [] (wipe σ (own.map (·.2))) B z ∧ tn i z.heap ∧ (∀ b ∈ fp, B b = none) ∧ W i n B) ?_ m0 ⟨0, H3, I4, st4, free3, w0⟩
    rintro n s5 ⟨i, H5, I5, st5, n5, w5⟩
    rcases turn i n H5 w5 with ⟨stop, qq⟩ | ⟨go, Nx, hNx, step⟩
    · refine thnF (TU.done (X.blk s3 H3 sc ce fp) rfl rfl rfl hc i [] s5 _ H5 (fun _ _ => False) I5 (foot I5 n5) st5 stop) fun r s6 ⟨hr, I6⟩ => ?_
      subst hr
      have I7 : Inv X pins σ H5 s6 := I3.call' (ch := fp) I6.os I6.base I6.hok I6.bare fun b hb => ⟨(f3 b hb).1.2.2.2.1, (f3 b hb).1.2.1, (f3 b hb).1.2.2.2.2.1, (f3 b hb).1.2.2.2.2.2⟩
      have nC : H5 s3.heap.objs.size = none := by
        have z : H5 ce.locals = none := I6.free
        rw [cL] at z
        exact z
      obtain ⟨m, hm, _⟩ := I6.loc
      have hm : s6.heap.Ns ce.locals m := hm
      rw [cL] at hm
      obtain ⟨g0, g1, g2, g3, g4, g5⟩ := I3.fpOk (Nat.le_refl _) nC
      exact ⟨m, hm, fun h'' sb => ⟨.ref D, H5, I7.turned (t' := s6.toks) (fun b o hb e => (sb.2 b hb).trans e) g0 g1 g3 g4 g5, rfl, qq⟩⟩
    · refine thnF (TU.item (X.blk s3 H3 sc ce fp) rfl rfl rfl hc i [] s5 _ H5 (fun _ _ => False) I5 (foot I5 n5) st5 go) fun r s6 ⟨u, hr, h6⟩ => ?_
      subst hr
      refine thnF h6 fun _ s7 ⟨x, H7, I7, r7, y7, st7, n7⟩ => ?_
      refine thnF (pG.run _ s7 _ H7 x u _ (I7.pinned (foot I7 n7) (TU.obj _ _ st7)) r7 (step x H7 y7)) fun _ s8 ⟨σ8, H8, I8, hw8, q8⟩ => ?_
      refine thnF ((pts_nil (X := X.blk s3 H3 sc ce fp)).run _ s8 σ8 H8 (fun b B => b = true ∧ B = H8) I8 ⟨rfl, rfl⟩) fun b s9 ⟨H9, I9, eb, eh⟩ => ?_
      subst eb
      subst eh
      simp only [if_true]
      refine thnF (pK.run _ s9 σ8 H9 _ I9 q8) fun z s10 ⟨yk, H10, I10, r10, q10⟩ => ?_
      refine thnF (pV.run _ s10 σ8 H10 _ I10 q10) fun z2 s11 ⟨yv, H11, I11, r11, kvs, k, kb, ek, hkb, hD11, hz11, nx⟩ => ?_
      subst ek
      cases (show z = Value.ref kb from r10)
      refine put_dT (X := X.blk s3 H3 sc ce fp) hu I11 hD11 hz11 hkb r11 fun s12 I12 => ?_
      obtain ⟨m', hm, w'⟩ := hNx _ nx
      have pin : ∀ b ∈ fp, ∀ o, s7.heap.get? b = some o → s12.heap.get? b = some o ∧ (upd H11 D (.dT (putK kvs k yv))) b = none := fun b hb o e =>
        let z := I12.pin (b, o) (List.mem_append_right _ (List.mem_append_right _ (mem_pinsAt hb e)))
        ⟨z.1, z.2.1⟩
      have hl : (wipe σ (own.map (·.2))).length = σ8.length := by rw [← hw8, wipe_length]
      refine ⟨m', hm, i + 1, _, (I12.unpinned (pins := [])).weak hl (fun j v e => ?_), TU.keep _ _ _ st7 fun b hb o e => (pin b hb o e).1, fun b hb => ?_, w'⟩
      · rw [← hw8] at e
        exact (wipe_some e).1
      · obtain ⟨o, e, _⟩ := TU.obj _ _ st7 b hb
        exact (pin b hb o e).2
end
/-- over a walk -/
theorem dc_it {J : It} {n : Nat} {G : Hp → Prop} {Y : Nat → Hp → V → Hp → Prop} (w : L2.Walk J n G Y) {g : TG} {tk tv : TE} {vs : List Nat} {σ : L2.St} {H1 : Hp} {D : Addr} {Qd : Hp → Prop} (Pv : Nat → Hp → Prop) (h0 : Pv 0 (upd H1 D (.dT []))) (hG : ∀ i H, i ≤ n → Pv i H → G H)
    (hs : ∀ i x H H', i < n → Pv i H → Y i H x H' → g x (wipe σ vs) H' fun σ2 H2 => wipe σ2 vs = wipe σ vs ∧ tk σ2 H2 fun y H4 => tv σ2 H4 fun z H5 => ∃ kvs k b, y = .ref b ∧ H5 b = some (.tup (List.map kV k)) ∧ H5 D = some (.dT kvs) ∧ kvs.length < sizeLine ∧ Pv (i + 1) (upd H5 D (.dT (putK kvs k z)))) (hd : ∀ H, Pv n H → Qd H) :
    ∃ W : Nat → Nat → Hp → Prop, (∃ m, W 0 m (upd H1 D (.dT []))) ∧ ∀ i m H, W i m H →
      (J.stop i H ∧ Qd H) ∨ (J.go i H ∧ ∃ Nx : Hp → Prop, (∀ H', Nx H' → ∃ m', m' < m ∧ W (i + 1) m' H') ∧ ∀ x H', J.yld i H x H' → g x (wipe σ vs) H' fun σ2 H2 => wipe σ2 vs = wipe σ vs ∧
        tk σ2 H2 fun y H4 => tv σ2 H4 fun z H5 => ∃ kvs k b, y = .ref b ∧ H5 b = some (.tup (List.map kV k)) ∧ H5 D = some (.dT kvs) ∧ kvs.length < sizeLine ∧ Nx (upd H5 D (.dT (putK kvs k z)))) := by
  refine ⟨fun i m H => m = n - i ∧ i ≤ n ∧ Pv i H, ⟨n, by simp, Nat.zero_le _, h0⟩, ?_⟩
  rintro i m H ⟨rfl, hi, p⟩
  by_cases hlt : i < n
  · exact .inr ⟨w.goes i H hlt (hG i H hi p), Pv (i + 1), fun H' p' => ⟨n - (i + 1), by omega, rfl, hlt, p'⟩, fun x H' y => hs i x H H' hlt p (w.yields i H x H' hlt (hG i H hi p) y)⟩
  · have e : i = n := by omega
    subst e
    exact .inl ⟨w.stops H (hG i H hi p), hd H p⟩
end Wm
end
section
set_option Elab.async false
set_option linter.all false
set_option maxRecDepth 100000
set_option maxHeartbeats 4000000
/-! The row's defs by place. -/
namespace Wm
open PySem PySem.Spec PyProof.Rows L2
def top (i : Nat) : Stmt := PySem.Challenge.pw_wetmarks_k56_whole_webs_put_behind_one_a.main.body.getD i (.Pass ⟨0, 0, 0, 0⟩)
abbrev s_is_whole : Stmt := top 10
abbrev s_root_of : Stmt := top 11
abbrev s_Drum_init : Stmt := inClass (top 14) 0
abbrev s_Drum_first : Stmt := inClass (top 14) 2
abbrev s_Drum_step : Stmt := inClass (top 14) 3
abbrev s_Drum_size : Stmt := inClass (top 14) 4
abbrev s_Drum_begins : Stmt := inClass (top 14) 5
abbrev s_Drum_where : Stmt := inClass (top 14) 6
abbrev s_Drum_turn_of : Stmt := inClass (top 14) 7
abbrev s_is_from : Stmt := top 20
abbrev s_want_many : Stmt := top 21
abbrev s_Shop_init : Stmt := inClass (top 22) 0
abbrev s_Shop_faces : Stmt := inClass (top 22) 4
abbrev s_is_ply : Stmt := top 26
abbrev s_wrong_ply : Stmt := top 27
abbrev s_faces_at : Stmt := top 28
abbrev s_layers_of : Stmt := top 29
abbrev s_Rolling_init : Stmt := inClass (top 30) 0
abbrev s_Rolling_under : Stmt := inClass (top 30) 1
abbrev s_Rolling_pairs : Stmt := inClass (top 30) 2
abbrev s_Rolling_near : Stmt := inClass (top 30) 3
abbrev s_Rolling_around : Stmt := inClass (top 30) 4
abbrev s_is_count : Stmt := top 33
abbrev s_is_deed : Stmt := top 34
abbrev s_want_row : Stmt := top 35
abbrev s_Span_init : Stmt := inClass (top 36) 0
abbrev s_Span_around : Stmt := inClass (top 36) 2
abbrev s_Course_init : Stmt := inClass (top 37) 0
abbrev s_first_moments : Stmt := top 38
abbrev s_want_wet : Stmt := top 40
abbrev s_all_times : Stmt := top 41
abbrev s_web : Stmt := top 42
abbrev s_parted : Stmt := top 43
abbrev s_law_source_of : Stmt := top 45
abbrev s_law_next : Stmt := top 46
abbrev s_law_one : Stmt := top 47
abbrev s_law_cell_at : Stmt := top 48
abbrev s_law_mixed : Stmt := top 49
abbrev s_law_spec : Stmt := top 50
abbrev s_law_shop : Stmt := top 51
abbrev s_law_plies : Stmt := top 52
abbrev s_law_row : Stmt := top 53
abbrev s_law_behind : Stmt := top 54
abbrev s_law : Stmt := top 55
def d_is_whole : He.DefD := ⟨("is_whole", none), "is_whole", "is_whole", defArgs s_is_whole, defBody s_is_whole, defScope s_is_whole, [], []⟩
def d_root_of : He.DefD := ⟨("root_of", none), "root_of", "root_of", defArgs s_root_of, defBody s_root_of, defScope s_root_of, [], []⟩
def d_Drum_init : He.DefD := ⟨("Drum", some "__init__"), "__init__", "Drum.__init__", defArgs s_Drum_init, defBody s_Drum_init, defScope s_Drum_init, [], []⟩
def d_Drum_first : He.DefD := ⟨("Drum", some "first"), "first", "Drum.first", defArgs s_Drum_first, defBody s_Drum_first, defScope s_Drum_first, [], []⟩
def d_Drum_step : He.DefD := ⟨("Drum", some "step"), "step", "Drum.step", defArgs s_Drum_step, defBody s_Drum_step, defScope s_Drum_step, [], []⟩
def d_Drum_size : He.DefD := ⟨("Drum", some "size"), "size", "Drum.size", defArgs s_Drum_size, defBody s_Drum_size, defScope s_Drum_size, [], []⟩
def d_Drum_begins : He.DefD := ⟨("Drum", some "begins"), "begins", "Drum.begins", defArgs s_Drum_begins, defBody s_Drum_begins, defScope s_Drum_begins, [], []⟩
def d_Drum_where : He.DefD := ⟨("Drum", some "where"), "where", "Drum.where", defArgs s_Drum_where, defBody s_Drum_where, defScope s_Drum_where, [], []⟩
def d_Drum_turn_of : He.DefD := ⟨("Drum", some "turn_of"), "turn_of", "Drum.turn_of", defArgs s_Drum_turn_of, defBody s_Drum_turn_of, defScope s_Drum_turn_of, [], []⟩
def d_is_from : He.DefD := ⟨("is_from", none), "is_from", "is_from", defArgs s_is_from, defBody s_is_from, defScope s_is_from, [], []⟩
def d_want_many : He.DefD := ⟨("want_many", none), "want_many", "want_many", defArgs s_want_many, defBody s_want_many, defScope s_want_many, [], []⟩
def d_Shop_init : He.DefD := ⟨("Shop", some "__init__"), "__init__", "Shop.__init__", defArgs s_Shop_init, defBody s_Shop_init, defScope s_Shop_init, [], []⟩
def d_Shop_faces : He.DefD := ⟨("Shop", some "faces"), "faces", "Shop.faces", defArgs s_Shop_faces, defBody s_Shop_faces, defScope s_Shop_faces, [], []⟩
def d_is_ply : He.DefD := ⟨("is_ply", none), "is_ply", "is_ply", defArgs s_is_ply, defBody s_is_ply, defScope s_is_ply, [], []⟩
def d_wrong_ply : He.DefD := ⟨("wrong_ply", none), "wrong_ply", "wrong_ply", defArgs s_wrong_ply, defBody s_wrong_ply, defScope s_wrong_ply, [], []⟩
def d_faces_at : He.DefD := ⟨("faces_at", none), "faces_at", "faces_at", defArgs s_faces_at, defBody s_faces_at, defScope s_faces_at, [], []⟩
def d_layers_of : He.DefD := ⟨("layers_of", none), "layers_of", "layers_of", defArgs s_layers_of, defBody s_layers_of, defScope s_layers_of, [], []⟩
def d_Rolling_init : He.DefD := ⟨("Rolling", some "__init__"), "__init__", "Rolling.__init__", defArgs s_Rolling_init, defBody s_Rolling_init, defScope s_Rolling_init, [], []⟩
def d_Rolling_under : He.DefD := ⟨("Rolling", some "under"), "under", "Rolling.under", defArgs s_Rolling_under, defBody s_Rolling_under, defScope s_Rolling_under, [], []⟩
def d_Rolling_pairs : He.DefD := ⟨("Rolling", some "pairs"), "pairs", "Rolling.pairs", defArgs s_Rolling_pairs, defBody s_Rolling_pairs, defScope s_Rolling_pairs, [], []⟩
def d_Rolling_near : He.DefD := ⟨("Rolling", some "near"), "near", "Rolling.near", defArgs s_Rolling_near, defBody s_Rolling_near, defScope s_Rolling_near, [], []⟩
def d_Rolling_around : He.DefD := ⟨("Rolling", some "around"), "around", "Rolling.around", defArgs s_Rolling_around, defBody s_Rolling_around, defScope s_Rolling_around, [], []⟩
def d_is_count : He.DefD := ⟨("is_count", none), "is_count", "is_count", defArgs s_is_count, defBody s_is_count, defScope s_is_count, [], []⟩
def d_is_deed : He.DefD := ⟨("is_deed", none), "is_deed", "is_deed", defArgs s_is_deed, defBody s_is_deed, defScope s_is_deed, [], []⟩
def d_want_row : He.DefD := ⟨("want_row", none), "want_row", "want_row", defArgs s_want_row, defBody s_want_row, defScope s_want_row, [], []⟩
def d_Span_init : He.DefD := ⟨("Span", some "__init__"), "__init__", "Span.__init__", defArgs s_Span_init, defBody s_Span_init, defScope s_Span_init, [], []⟩
def d_Span_around : He.DefD := ⟨("Span", some "around"), "around", "Span.around", defArgs s_Span_around, defBody s_Span_around, defScope s_Span_around, [], []⟩
def d_Course_init : He.DefD := ⟨("Course", some "__init__"), "__init__", "Course.__init__", defArgs s_Course_init, defBody s_Course_init, defScope s_Course_init, [], []⟩
def d_first_moments : He.DefD := ⟨("first_moments", none), "first_moments", "first_moments", defArgs s_first_moments, defBody s_first_moments, defScope s_first_moments, [], []⟩
def d_want_wet : He.DefD := ⟨("want_wet", none), "want_wet", "want_wet", defArgs s_want_wet, defBody s_want_wet, defScope s_want_wet, [], []⟩
def d_all_times : He.DefD := ⟨("all_times", none), "all_times", "all_times", defArgs s_all_times, defBody s_all_times, defScope s_all_times, [], []⟩
def d_web : He.DefD := ⟨("web", none), "web", "web", defArgs s_web, defBody s_web, defScope s_web, [], []⟩
def d_parted : He.DefD := ⟨("parted", none), "parted", "parted", defArgs s_parted, defBody s_parted, defScope s_parted, [], []⟩
def d_law_source_of : He.DefD := ⟨("_law_source_of", none), "_law_source_of", "_law_source_of", defArgs s_law_source_of, defBody s_law_source_of, defScope s_law_source_of, [], []⟩
def d_law_next : He.DefD := ⟨("_law_next", none), "_law_next", "_law_next", defArgs s_law_next, defBody s_law_next, defScope s_law_next, [], []⟩
def d_law_one : He.DefD := ⟨("_law_one", none), "_law_one", "_law_one", defArgs s_law_one, defBody s_law_one, defScope s_law_one, [], []⟩
def d_law_cell_at : He.DefD := ⟨("_law_cell_at", none), "_law_cell_at", "_law_cell_at", defArgs s_law_cell_at, defBody s_law_cell_at, defScope s_law_cell_at, [], []⟩
def d_law_mixed : He.DefD := ⟨("_law_mixed", none), "_law_mixed", "_law_mixed", defArgs s_law_mixed, defBody s_law_mixed, defScope s_law_mixed, [], []⟩
def d_law_spec : He.DefD := ⟨("_law_spec", none), "_law_spec", "_law_spec", defArgs s_law_spec, defBody s_law_spec, defScope s_law_spec, [], []⟩
def d_law_shop : He.DefD := ⟨("_law_shop", none), "_law_shop", "_law_shop", defArgs s_law_shop, defBody s_law_shop, defScope s_law_shop, [], []⟩
def d_law_plies : He.DefD := ⟨("_law_plies", none), "_law_plies", "_law_plies", defArgs s_law_plies, defBody s_law_plies, defScope s_law_plies, [], []⟩
def d_law_row : He.DefD := ⟨("_law_row", none), "_law_row", "_law_row", defArgs s_law_row, defBody s_law_row, defScope s_law_row, [], []⟩
def d_law_behind : He.DefD := ⟨("_law_behind", none), "_law_behind", "_law_behind", defArgs s_law_behind, defBody s_law_behind, defScope s_law_behind, [], []⟩
def d_law : He.DefD := ⟨("law", none), "law", "law", defArgs s_law, defBody s_law, defScope s_law, [], []⟩
theorem sc_is_whole : FnScope ["thing"] ["thing"] (defScope s_is_whole) := ⟨rfl, rfl, rfl, by decide +kernel, rfl, by decide +kernel, by decide +kernel⟩
theorem sc_root_of : FnScope ["number", "guess", "better"] ["number"] (defScope s_root_of) := ⟨rfl, rfl, rfl, by decide +kernel, rfl, by decide +kernel, by decide +kernel⟩
theorem sc_Drum_init : FnScope ["self", "first", "step"] ["self", "first", "step"] (defScope s_Drum_init) := ⟨rfl, rfl, rfl, by decide +kernel, rfl, by decide +kernel, by decide +kernel⟩
theorem sc_Drum_first : FnScope ["self"] ["self"] (defScope s_Drum_first) := ⟨rfl, rfl, rfl, by decide +kernel, rfl, by decide +kernel, by decide +kernel⟩
theorem sc_Drum_step : FnScope ["self"] ["self"] (defScope s_Drum_step) := ⟨rfl, rfl, rfl, by decide +kernel, rfl, by decide +kernel, by decide +kernel⟩
theorem sc_Drum_size : FnScope ["self", "turn"] ["self", "turn"] (defScope s_Drum_size) := ⟨rfl, rfl, rfl, by decide +kernel, rfl, by decide +kernel, by decide +kernel⟩
theorem sc_Drum_begins : FnScope ["self", "turn"] ["self", "turn"] (defScope s_Drum_begins) := ⟨rfl, rfl, rfl, by decide +kernel, rfl, by decide +kernel, by decide +kernel⟩
theorem sc_Drum_where : FnScope ["self", "cell", "turn"] ["self", "cell"] (defScope s_Drum_where) := ⟨rfl, rfl, rfl, by decide +kernel, rfl, by decide +kernel, by decide +kernel⟩
theorem sc_Drum_turn_of : FnScope ["self", "cell", "twice", "turn"] ["self", "cell"] (defScope s_Drum_turn_of) := ⟨rfl, rfl, rfl, by decide +kernel, rfl, by decide +kernel, by decide +kernel⟩
theorem sc_is_from : FnScope ["thing", "low", "high"] ["thing", "low", "high"] (defScope s_is_from) := ⟨rfl, rfl, rfl, by decide +kernel, rfl, by decide +kernel, by decide +kernel⟩
theorem sc_want_many : FnScope ["part", "things", "most"] ["part", "things", "most"] (defScope s_want_many) := ⟨rfl, rfl, rfl, by decide +kernel, rfl, by decide +kernel, by decide +kernel⟩
theorem sc_Shop_init : FnScope ["self", "drums", "strips", "at", "drum", "many"] ["self", "drums", "strips"] (defScope s_Shop_init) := ⟨rfl, rfl, rfl, by decide +kernel, rfl, by decide +kernel, by decide +kernel⟩
theorem sc_Shop_faces : FnScope ["self", "found", "number", "drum", "cell", "many", "side"] ["self"] (defScope s_Shop_faces) := ⟨rfl, rfl, rfl, by decide +kernel, rfl, by decide +kernel, by decide +kernel⟩
theorem sc_is_ply : FnScope ["shop", "thing", "strip", "end", "side"] ["shop", "thing"] (defScope s_is_ply) := ⟨rfl, rfl, rfl, by decide +kernel, rfl, by decide +kernel, by decide +kernel⟩
theorem sc_wrong_ply : FnScope ["shop", "plies", "strips", "at", "ply"] ["shop", "plies"] (defScope s_wrong_ply) := ⟨rfl, rfl, rfl, by decide +kernel, rfl, by decide +kernel, by decide +kernel⟩
theorem sc_faces_at : FnScope ["shop", "ply", "place", "strip", "end", "side", "many", "cell", "other"] ["shop", "ply", "place"] (defScope s_faces_at) := ⟨rfl, rfl, rfl, by decide +kernel, rfl, by decide +kernel, by decide +kernel⟩
theorem sc_layers_of : FnScope ["shop", "plies", "most", "strip", "end", "side", "place", "ply", "faces"] ["shop", "plies"] (defScope s_layers_of) := ⟨rfl, rfl, rfl, by decide +kernel, rfl, by decide +kernel, by decide +kernel⟩
theorem sc_Rolling_init : FnScope ["self", "shop", "drum", "plies", "one", "other"] ["self", "shop", "drum", "plies"] (defScope s_Rolling_init) := ⟨rfl, rfl, rfl, by decide +kernel, rfl, by decide +kernel, by decide +kernel⟩
theorem sc_Rolling_under : FnScope ["self", "place", "turn", "at", "size", "less", "begin", "low", "high", "k"] ["self", "place"] (defScope s_Rolling_under) := ⟨rfl, rfl, rfl, by decide +kernel, rfl, by decide +kernel, by decide +kernel⟩
theorem sc_Rolling_pairs : FnScope ["self", "found", "place", "faces", "inner", "outer", "face", "one", "other"] ["self"] (defScope s_Rolling_pairs) := ⟨rfl, rfl, rfl, by decide +kernel, rfl, by decide +kernel, by decide +kernel⟩
theorem sc_Rolling_near : FnScope ["self", "face"] ["self", "face"] (defScope s_Rolling_near) := ⟨rfl, rfl, rfl, by decide +kernel, rfl, by decide +kernel, by decide +kernel⟩
theorem sc_Rolling_around : FnScope ["self", "face", "found", "line", "later", "one", "other"] ["self", "face"] (defScope s_Rolling_around) := ⟨rfl, rfl, rfl, by decide +kernel, rfl, by decide +kernel, by decide +kernel⟩
theorem sc_is_count : FnScope ["thing"] ["thing"] (defScope s_is_count) := ⟨rfl, rfl, rfl, by decide +kernel, rfl, by decide +kernel, by decide +kernel⟩
theorem sc_is_deed : FnScope ["shop", "thing"] ["shop", "thing"] (defScope s_is_deed) := ⟨rfl, rfl, rfl, by decide +kernel, rfl, by decide +kernel, by decide +kernel⟩
theorem sc_want_row : FnScope ["shop", "row", "at", "deed"] ["shop", "row"] (defScope s_want_row) := ⟨rfl, rfl, rfl, by decide +kernel, rfl, by decide +kernel, by decide +kernel⟩
theorem sc_Span_init : FnScope ["self", "begin", "end", "rolling"] ["self", "begin", "end", "rolling"] (defScope s_Span_init) := ⟨rfl, rfl, rfl, by decide +kernel, rfl, by decide +kernel, by decide +kernel⟩
theorem sc_Span_around : FnScope ["self", "face"] ["self", "face"] (defScope s_Span_around) := ⟨rfl, rfl, rfl, by decide +kernel, rfl, by decide +kernel, by decide +kernel⟩
theorem sc_Course_init : FnScope ["self", "shop", "row", "known", "deed", "rolling", "key"] ["self", "shop", "row"] (defScope s_Course_init) := ⟨rfl, rfl, rfl, by decide +kernel, rfl, by decide +kernel, by decide +kernel⟩
theorem sc_first_moments : FnScope ["course", "starts", "dry", "known", "span", "last", "face", "moment", "begin", "other", "far"] ["course", "starts", "dry"] (defScope s_first_moments) := ⟨rfl, rfl, rfl, by decide +kernel, rfl, by decide +kernel, by decide +kernel⟩
theorem sc_want_wet : FnScope ["wet"] ["wet"] (defScope s_want_wet) := ⟨rfl, rfl, rfl, by decide +kernel, rfl, by decide +kernel, by decide +kernel⟩
theorem sc_all_times : FnScope ["shop", "course", "face"] ["shop", "course"] (defScope s_all_times) := ⟨rfl, rfl, rfl, by decide +kernel, rfl, by decide +kernel, by decide +kernel⟩
theorem sc_web : FnScope ["shop", "row", "wet", "course", "face"] ["shop", "row", "wet"] (defScope s_web) := ⟨rfl, rfl, rfl, by decide +kernel, rfl, by decide +kernel, by decide +kernel⟩
theorem sc_parted : FnScope ["shop", "one", "other", "mine", "more", "found", "face", "shown", "both", "known"] ["shop", "one", "other"] (defScope s_parted) := ⟨rfl, rfl, rfl, by decide +kernel, rfl, by decide +kernel, by decide +kernel⟩
theorem sc_law_source_of : FnScope ["_law_cell"] ["_law_cell"] (defScope s_law_source_of) := ⟨rfl, rfl, rfl, by decide +kernel, rfl, by decide +kernel, by decide +kernel⟩
theorem sc_law_next : FnScope ["_law_source", "_law_many", "_law_found", "_law_prime", "_law_figure"] ["_law_source", "_law_many"] (defScope s_law_next) := ⟨rfl, rfl, rfl, by decide +kernel, rfl, by decide +kernel, by decide +kernel⟩
theorem sc_law_one : FnScope ["_law_source", "_law_some"] ["_law_source", "_law_some"] (defScope s_law_one) := ⟨rfl, rfl, rfl, by decide +kernel, rfl, by decide +kernel, by decide +kernel⟩
theorem sc_law_cell_at : FnScope ["_law_script", "_law_k"] ["_law_script", "_law_k"] (defScope s_law_cell_at) := ⟨rfl, rfl, rfl, by decide +kernel, rfl, by decide +kernel, by decide +kernel⟩
theorem sc_law_mixed : FnScope ["_law_source", "_law_some", "_law_left", "_law_found"] ["_law_source", "_law_some"] (defScope s_law_mixed) := ⟨rfl, rfl, rfl, by decide +kernel, rfl, by decide +kernel, by decide +kernel⟩
theorem sc_law_spec : FnScope ["_law_source", "_law_most", "_law_wide", "_law_some", "_law_k", "_law_drums"] ["_law_source", "_law_most"] (defScope s_law_spec) := ⟨rfl, rfl, rfl, by decide +kernel, rfl, by decide +kernel, by decide +kernel⟩
theorem sc_law_shop : FnScope ["_law_spec_here", "_law_first", "_law_step"] ["_law_spec_here"] (defScope s_law_shop) := ⟨rfl, rfl, rfl, by decide +kernel, rfl, by decide +kernel, by decide +kernel⟩
theorem sc_law_plies : FnScope ["_law_source", "_law_spec_here", "_law_strips", "_law_k"] ["_law_source", "_law_spec_here"] (defScope s_law_plies) := ⟨rfl, rfl, rfl, by decide +kernel, rfl, by decide +kernel, by decide +kernel⟩
theorem sc_law_row : FnScope ["_law_source", "_law_spec_here", "_law_most", "_law_found", "_law_k", "_law_beats"] ["_law_source", "_law_spec_here", "_law_most"] (defScope s_law_row) := ⟨rfl, rfl, rfl, by decide +kernel, rfl, by decide +kernel, by decide +kernel⟩
theorem sc_law_behind : FnScope ["_law_one_here", "_law_other", "_law_later", "_law_found", "_law_face", "_law_faces", "_law_shown", "_law_middle_here"] ["_law_one_here", "_law_other"] (defScope s_law_behind) := ⟨rfl, rfl, rfl, by decide +kernel, rfl, by decide +kernel, by decide +kernel⟩
theorem sc_law : FnScope ["_law_script", "_law_cell", "_law_source", "_law_spec_here", "_law_one_here", "_law_other", "_law_kept", "_law_shop_here", "_law_beats", "_law_deed", "_law_wets", "_law_wet", "_law_due", "_law_split", "_law_half"] ["_law_script"] (defScope s_law) := ⟨rfl, rfl, rfl, by decide +kernel, rfl, by decide +kernel, by decide +kernel⟩
def fn : List He.DefD := [d_is_whole, d_root_of, d_Drum_init, d_Drum_first, d_Drum_step, d_Drum_size, d_Drum_begins, d_Drum_where, d_Drum_turn_of, d_is_from, d_want_many, d_Shop_init, d_Shop_faces, d_is_ply, d_wrong_ply, d_faces_at, d_layers_of, d_Rolling_init, d_Rolling_under, d_Rolling_pairs, d_Rolling_near, d_Rolling_around, d_is_count, d_is_deed, d_want_row, d_Span_init, d_Span_around, d_Course_init, d_first_moments, d_want_wet, d_all_times, d_web, d_parted, d_law_source_of, d_law_next, d_law_one, d_law_cell_at, d_law_mixed, d_law_spec, d_law_shop, d_law_plies, d_law_row, d_law_behind, d_law]
def fa0 : List He.Fa := [.glo "WetError", .glo "BadDrum", .glo "NoTurn", .glo "NoCell", .glo "BadShop", .glo "NoBeats", .glo "BadRow", .glo "is_whole", .glo "root_of", .int "MOST" 1000000000000000, .glo "Drum", .int "MOST_DRUMS" 3, .int "MOST_STRIPS" 6, .int "MOST_CELLS" 40, .glo "SIDES", .glo "is_from", .glo "want_many", .glo "Shop", .glo "ENDS", .int "MOST_PLIES" 3]
def fa1 : List He.Fa := [.glo "is_ply", .glo "wrong_ply", .glo "faces_at", .glo "layers_of", .glo "Rolling", .int "MOST_DEEDS" 40, .glo "is_count", .glo "is_deed", .glo "want_row", .glo "Span", .glo "Course", .glo "first_moments", .glo "want_wet", .glo "all_times", .glo "web", .glo "parted", .glo "_law_source_of", .glo "_law_next", .glo "_law_one", .glo "_law_cell_at"]
def fa2 : List He.Fa := [.glo "_law_mixed", .glo "_law_spec", .glo "_law_shop", .glo "_law_plies", .glo "_law_row", .glo "_law_behind", .glo "law", .free "len", .free "isinstance", .free "max", .free "min", .free "sorted", .free "list", .free "dict", .free "set", .free "tuple", .free "range", .free "enumerate", .free "zip", .free "int"]
def fa3 : List He.Fa := [.free "bool", .free "str", .free "sum", .free "repr", .cls "Drum", .mkr "Drum", .keep "Drum", .noat "Drum" "least", .noat "Drum" "more", .cls "Shop", .mkr "Shop", .keep "Shop", .noat "Shop" "rollers", .noat "Shop" "lengths", .cls "Rolling", .mkr "Rolling", .keep "Rolling", .noat "Rolling" "drum_at", .noat "Rolling" "roller", .noat "Rolling" "layers"]
def fa4 : List He.Fa := [.noat "Rolling" "nexts", .noat "Rolling" "rounds", .cls "Span", .mkr "Span", .keep "Span", .noat "Span" "low", .noat "Span" "high", .noat "Span" "lying", .cls "Course", .mkr "Course", .keep "Course", .noat "Course" "spans", .noat "Course" "total", .meth "Drum" "first", .meth "Drum" "step", .meth "Drum" "size", .meth "Drum" "begins", .meth "Drum" "where", .meth "Drum" "turn_of", .meth "Shop" "faces"]
def fa5 : List He.Fa := [.meth "Rolling" "under", .meth "Rolling" "pairs", .meth "Rolling" "near", .meth "Rolling" "around", .meth "Span" "around"]
def fa : List He.Fa := fa0 ++ fa1 ++ fa2 ++ fa3 ++ fa4 ++ fa5
/-- an instance of the class x is told by isinstance -/
def isB (K : PySem.W.Frag) (x : Str) : Bool := decide (PySem.W.findIn K (.ref (He.ga K x)) "__class__" = some (some (.builtin "object.__class__"))) && (decide (PySem.W.specialIn K (.builtin "object.__class__") "__get__" = some (some (.builtin "getset_descriptor.__get__"))) &&
  (decide (PySem.W.takesIn K (.builtin "object.__class__") = some true) && (decide (PySem.W.mroIn K (He.ga K x) (.type "object") = some true) && decide (PySem.W.kitOne K (.ref (He.ga K x)) (.ref (He.ga K x)) = some true))))
def ex (K : PySem.W.Frag) : Bool := He.tupB K "SIDES" [.str "back", .str "front"] && (He.tupB K "ENDS" [.str "head", .str "tail"] && isB K "Drum")
end Wm
end
section
set_option Elab.async false
set_option linter.all false
set_option maxRecDepth 100000
set_option maxHeartbeats 4000000
/-! The head, run by the kernel. -/
set_option maxHeartbeats 0
namespace Wm
open PySem PySem.Spec PyProof.Rows L2
abbrev R : PySem.W.OpenRow := PySem.W.OpenLaw.row PySem.Challenge.rw_wetmarks_k56_whole_webs_put_behind_one_a
abbrev hk : PySem.W.Hook := He.hookX 5 fa fn [] [] ex
def ob (s : PySem.W.SharedT) : He.AlX := He.obsX 5 fa fn [] [] ex (HandSHeadRun.getT s)
theorem ob_eq (s : PySem.W.SharedT) : ob s = hk.obs s.abs := He.obsX_eq (HandSHeadRun.getT_eq s)
def loose : List PySem.Str := (["_wall", "WetError", "BadDrum", "NoTurn", "NoCell", "BadShop", "NoBeats", "BadRow", "is_whole", "root_of", "MOST", "Drum", "MOST_DRUMS", "MOST_STRIPS", "MOST_CELLS"] : List PySem.Str) ++ (["SIDES", "is_from", "want_many", "Shop", "ENDS", "MOST_PLIES", "is_ply", "wrong_ply", "faces_at", "layers_of", "Rolling", "MOST_DEEDS", "is_count", "is_deed", "want_row"] : List PySem.Str) ++ (["Span", "Course", "first_moments", "want_wet", "all_times", "web", "parted", "_law_source_of", "_law_next", "_law_one", "_law_cell_at", "_law_mixed", "_law_spec", "_law_shop", "_law_plies"] : List PySem.Str) ++ (["_law_row", "_law_behind"] : List PySem.Str)
theorem run (w : World) : HandSHeadRun.RunEq R (PySem.W.view R.prog [55]) hk ob 6000 loose w := by
  intro os
  kernel_rfl
end Wm
end
section
set_option Elab.async false
set_option linter.all false
set_option maxRecDepth 100000
set_option maxHeartbeats 4000000
/-! The facts of what the top has written, by name; a def that keeps its promise. -/
namespace Wm
open PySem PySem.Spec PyProof.Rows L2
structure Tx (K : PySem.W.Frag) (mg : Str → Option Value) : Prop where
  g_WetError : mg "WetError" = some (.ref (He.ga K "WetError"))
  g_BadDrum : mg "BadDrum" = some (.ref (He.ga K "BadDrum"))
  g_NoTurn : mg "NoTurn" = some (.ref (He.ga K "NoTurn"))
  g_NoCell : mg "NoCell" = some (.ref (He.ga K "NoCell"))
  g_BadShop : mg "BadShop" = some (.ref (He.ga K "BadShop"))
  g_NoBeats : mg "NoBeats" = some (.ref (He.ga K "NoBeats"))
  g_BadRow : mg "BadRow" = some (.ref (He.ga K "BadRow"))
  g_is_whole : mg "is_whole" = some (.ref (He.ga K "is_whole"))
  g_root_of : mg "root_of" = some (.ref (He.ga K "root_of"))
  i_MOST : ∃ t, mg "MOST" = some (.int 1000000000000000 t)
  g_Drum : mg "Drum" = some (.ref (He.ga K "Drum"))
  i_MOST_DRUMS : ∃ t, mg "MOST_DRUMS" = some (.int 3 t)
  i_MOST_STRIPS : ∃ t, mg "MOST_STRIPS" = some (.int 6 t)
  i_MOST_CELLS : ∃ t, mg "MOST_CELLS" = some (.int 40 t)
  g_SIDES : mg "SIDES" = some (.ref (He.ga K "SIDES"))
  g_is_from : mg "is_from" = some (.ref (He.ga K "is_from"))
  g_want_many : mg "want_many" = some (.ref (He.ga K "want_many"))
  g_Shop : mg "Shop" = some (.ref (He.ga K "Shop"))
  g_ENDS : mg "ENDS" = some (.ref (He.ga K "ENDS"))
  i_MOST_PLIES : ∃ t, mg "MOST_PLIES" = some (.int 3 t)
  g_is_ply : mg "is_ply" = some (.ref (He.ga K "is_ply"))
  g_wrong_ply : mg "wrong_ply" = some (.ref (He.ga K "wrong_ply"))
  g_faces_at : mg "faces_at" = some (.ref (He.ga K "faces_at"))
  g_layers_of : mg "layers_of" = some (.ref (He.ga K "layers_of"))
  g_Rolling : mg "Rolling" = some (.ref (He.ga K "Rolling"))
  i_MOST_DEEDS : ∃ t, mg "MOST_DEEDS" = some (.int 40 t)
  g_is_count : mg "is_count" = some (.ref (He.ga K "is_count"))
  g_is_deed : mg "is_deed" = some (.ref (He.ga K "is_deed"))
  g_want_row : mg "want_row" = some (.ref (He.ga K "want_row"))
  g_Span : mg "Span" = some (.ref (He.ga K "Span"))
  g_Course : mg "Course" = some (.ref (He.ga K "Course"))
  g_first_moments : mg "first_moments" = some (.ref (He.ga K "first_moments"))
  g_want_wet : mg "want_wet" = some (.ref (He.ga K "want_wet"))
  g_all_times : mg "all_times" = some (.ref (He.ga K "all_times"))
  g_web : mg "web" = some (.ref (He.ga K "web"))
  g_parted : mg "parted" = some (.ref (He.ga K "parted"))
  g_law_source_of : mg "_law_source_of" = some (.ref (He.ga K "_law_source_of"))
  g_law_next : mg "_law_next" = some (.ref (He.ga K "_law_next"))
  g_law_one : mg "_law_one" = some (.ref (He.ga K "_law_one"))
  g_law_cell_at : mg "_law_cell_at" = some (.ref (He.ga K "_law_cell_at"))
  g_law_mixed : mg "_law_mixed" = some (.ref (He.ga K "_law_mixed"))
  g_law_spec : mg "_law_spec" = some (.ref (He.ga K "_law_spec"))
  g_law_shop : mg "_law_shop" = some (.ref (He.ga K "_law_shop"))
  g_law_plies : mg "_law_plies" = some (.ref (He.ga K "_law_plies"))
  g_law_row : mg "_law_row" = some (.ref (He.ga K "_law_row"))
  g_law_behind : mg "_law_behind" = some (.ref (He.ga K "_law_behind"))
  g_law : mg "law" = some (.ref (He.ga K "law"))
  n_len : mg "len" = none
  n_isinstance : mg "isinstance" = none
  n_max : mg "max" = none
  n_min : mg "min" = none
  n_sorted : mg "sorted" = none
  n_list : mg "list" = none
  n_dict : mg "dict" = none
  n_set : mg "set" = none
  n_tuple : mg "tuple" = none
  n_range : mg "range" = none
  n_enumerate : mg "enumerate" = none
  n_zip : mg "zip" = none
  n_int : mg "int" = none
  n_bool : mg "bool" = none
  n_str : mg "str" = none
  n_sum : mg "sum" = none
  n_repr : mg "repr" = none
  c_Drum : Cls K (He.ga K "Drum")
  m_Drum : Mk K (He.ga K "Drum") (He.ma K (He.ga K "Drum") "__init__")
  k_Drum : PySem.W.keepIn K (.ref (He.ga K "Drum")) = true
  a_Drum_least : NoAttr K (He.ga K "Drum") "least"
  a_Drum_more : NoAttr K (He.ga K "Drum") "more"
  c_Shop : Cls K (He.ga K "Shop")
  m_Shop : Mk K (He.ga K "Shop") (He.ma K (He.ga K "Shop") "__init__")
  k_Shop : PySem.W.keepIn K (.ref (He.ga K "Shop")) = true
  a_Shop_rollers : NoAttr K (He.ga K "Shop") "rollers"
  a_Shop_lengths : NoAttr K (He.ga K "Shop") "lengths"
  c_Rolling : Cls K (He.ga K "Rolling")
  m_Rolling : Mk K (He.ga K "Rolling") (He.ma K (He.ga K "Rolling") "__init__")
  k_Rolling : PySem.W.keepIn K (.ref (He.ga K "Rolling")) = true
  a_Rolling_drum_at : NoAttr K (He.ga K "Rolling") "drum_at"
  a_Rolling_roller : NoAttr K (He.ga K "Rolling") "roller"
  a_Rolling_layers : NoAttr K (He.ga K "Rolling") "layers"
  a_Rolling_nexts : NoAttr K (He.ga K "Rolling") "nexts"
  a_Rolling_rounds : NoAttr K (He.ga K "Rolling") "rounds"
  c_Span : Cls K (He.ga K "Span")
  m_Span : Mk K (He.ga K "Span") (He.ma K (He.ga K "Span") "__init__")
  k_Span : PySem.W.keepIn K (.ref (He.ga K "Span")) = true
  a_Span_low : NoAttr K (He.ga K "Span") "low"
  a_Span_high : NoAttr K (He.ga K "Span") "high"
  a_Span_lying : NoAttr K (He.ga K "Span") "lying"
  c_Course : Cls K (He.ga K "Course")
  m_Course : Mk K (He.ga K "Course") (He.ma K (He.ga K "Course") "__init__")
  k_Course : PySem.W.keepIn K (.ref (He.ga K "Course")) = true
  a_Course_spans : NoAttr K (He.ga K "Course") "spans"
  a_Course_total : NoAttr K (He.ga K "Course") "total"
  t_Drum_first : Meth K (He.ga K "Drum") "first" (He.ma K (He.ga K "Drum") "first")
  t_Drum_step : Meth K (He.ga K "Drum") "step" (He.ma K (He.ga K "Drum") "step")
  t_Drum_size : Meth K (He.ga K "Drum") "size" (He.ma K (He.ga K "Drum") "size")
  t_Drum_begins : Meth K (He.ga K "Drum") "begins" (He.ma K (He.ga K "Drum") "begins")
  t_Drum_where : Meth K (He.ga K "Drum") "where" (He.ma K (He.ga K "Drum") "where")
  t_Drum_turn_of : Meth K (He.ga K "Drum") "turn_of" (He.ma K (He.ga K "Drum") "turn_of")
  t_Shop_faces : Meth K (He.ga K "Shop") "faces" (He.ma K (He.ga K "Shop") "faces")
  t_Rolling_under : Meth K (He.ga K "Rolling") "under" (He.ma K (He.ga K "Rolling") "under")
  t_Rolling_pairs : Meth K (He.ga K "Rolling") "pairs" (He.ma K (He.ga K "Rolling") "pairs")
  t_Rolling_near : Meth K (He.ga K "Rolling") "near" (He.ma K (He.ga K "Rolling") "near")
  t_Rolling_around : Meth K (He.ga K "Rolling") "around" (He.ma K (He.ga K "Rolling") "around")
  t_Span_around : Meth K (He.ga K "Span") "around" (He.ma K (He.ga K "Span") "around")
  F_is_whole : ∃ fd, FunD K "is_whole" "is_whole" (defArgs s_is_whole) (defBody s_is_whole) (defScope s_is_whole) [] [] (He.ga K "is_whole") fd
  F_root_of : ∃ fd, FunD K "root_of" "root_of" (defArgs s_root_of) (defBody s_root_of) (defScope s_root_of) [] [] (He.ga K "root_of") fd
  F_Drum_init : ∃ fd, FunD K "__init__" "Drum.__init__" (defArgs s_Drum_init) (defBody s_Drum_init) (defScope s_Drum_init) [] [] (He.ma K (He.ga K "Drum") "__init__") fd
  F_Drum_first : ∃ fd, FunD K "first" "Drum.first" (defArgs s_Drum_first) (defBody s_Drum_first) (defScope s_Drum_first) [] [] (He.ma K (He.ga K "Drum") "first") fd
  F_Drum_step : ∃ fd, FunD K "step" "Drum.step" (defArgs s_Drum_step) (defBody s_Drum_step) (defScope s_Drum_step) [] [] (He.ma K (He.ga K "Drum") "step") fd
  F_Drum_size : ∃ fd, FunD K "size" "Drum.size" (defArgs s_Drum_size) (defBody s_Drum_size) (defScope s_Drum_size) [] [] (He.ma K (He.ga K "Drum") "size") fd
  F_Drum_begins : ∃ fd, FunD K "begins" "Drum.begins" (defArgs s_Drum_begins) (defBody s_Drum_begins) (defScope s_Drum_begins) [] [] (He.ma K (He.ga K "Drum") "begins") fd
  F_Drum_where : ∃ fd, FunD K "where" "Drum.where" (defArgs s_Drum_where) (defBody s_Drum_where) (defScope s_Drum_where) [] [] (He.ma K (He.ga K "Drum") "where") fd
  F_Drum_turn_of : ∃ fd, FunD K "turn_of" "Drum.turn_of" (defArgs s_Drum_turn_of) (defBody s_Drum_turn_of) (defScope s_Drum_turn_of) [] [] (He.ma K (He.ga K "Drum") "turn_of") fd
  F_is_from : ∃ fd, FunD K "is_from" "is_from" (defArgs s_is_from) (defBody s_is_from) (defScope s_is_from) [] [] (He.ga K "is_from") fd
  F_want_many : ∃ fd, FunD K "want_many" "want_many" (defArgs s_want_many) (defBody s_want_many) (defScope s_want_many) [] [] (He.ga K "want_many") fd
  F_Shop_init : ∃ fd, FunD K "__init__" "Shop.__init__" (defArgs s_Shop_init) (defBody s_Shop_init) (defScope s_Shop_init) [] [] (He.ma K (He.ga K "Shop") "__init__") fd
  F_Shop_faces : ∃ fd, FunD K "faces" "Shop.faces" (defArgs s_Shop_faces) (defBody s_Shop_faces) (defScope s_Shop_faces) [] [] (He.ma K (He.ga K "Shop") "faces") fd
  F_is_ply : ∃ fd, FunD K "is_ply" "is_ply" (defArgs s_is_ply) (defBody s_is_ply) (defScope s_is_ply) [] [] (He.ga K "is_ply") fd
  F_wrong_ply : ∃ fd, FunD K "wrong_ply" "wrong_ply" (defArgs s_wrong_ply) (defBody s_wrong_ply) (defScope s_wrong_ply) [] [] (He.ga K "wrong_ply") fd
  F_faces_at : ∃ fd, FunD K "faces_at" "faces_at" (defArgs s_faces_at) (defBody s_faces_at) (defScope s_faces_at) [] [] (He.ga K "faces_at") fd
  F_layers_of : ∃ fd, FunD K "layers_of" "layers_of" (defArgs s_layers_of) (defBody s_layers_of) (defScope s_layers_of) [] [] (He.ga K "layers_of") fd
  F_Rolling_init : ∃ fd, FunD K "__init__" "Rolling.__init__" (defArgs s_Rolling_init) (defBody s_Rolling_init) (defScope s_Rolling_init) [] [] (He.ma K (He.ga K "Rolling") "__init__") fd
  F_Rolling_under : ∃ fd, FunD K "under" "Rolling.under" (defArgs s_Rolling_under) (defBody s_Rolling_under) (defScope s_Rolling_under) [] [] (He.ma K (He.ga K "Rolling") "under") fd
  F_Rolling_pairs : ∃ fd, FunD K "pairs" "Rolling.pairs" (defArgs s_Rolling_pairs) (defBody s_Rolling_pairs) (defScope s_Rolling_pairs) [] [] (He.ma K (He.ga K "Rolling") "pairs") fd
  F_Rolling_near : ∃ fd, FunD K "near" "Rolling.near" (defArgs s_Rolling_near) (defBody s_Rolling_near) (defScope s_Rolling_near) [] [] (He.ma K (He.ga K "Rolling") "near") fd
  F_Rolling_around : ∃ fd, FunD K "around" "Rolling.around" (defArgs s_Rolling_around) (defBody s_Rolling_around) (defScope s_Rolling_around) [] [] (He.ma K (He.ga K "Rolling") "around") fd
  F_is_count : ∃ fd, FunD K "is_count" "is_count" (defArgs s_is_count) (defBody s_is_count) (defScope s_is_count) [] [] (He.ga K "is_count") fd
  F_is_deed : ∃ fd, FunD K "is_deed" "is_deed" (defArgs s_is_deed) (defBody s_is_deed) (defScope s_is_deed) [] [] (He.ga K "is_deed") fd
  F_want_row : ∃ fd, FunD K "want_row" "want_row" (defArgs s_want_row) (defBody s_want_row) (defScope s_want_row) [] [] (He.ga K "want_row") fd
  F_Span_init : ∃ fd, FunD K "__init__" "Span.__init__" (defArgs s_Span_init) (defBody s_Span_init) (defScope s_Span_init) [] [] (He.ma K (He.ga K "Span") "__init__") fd
  F_Span_around : ∃ fd, FunD K "around" "Span.around" (defArgs s_Span_around) (defBody s_Span_around) (defScope s_Span_around) [] [] (He.ma K (He.ga K "Span") "around") fd
  F_Course_init : ∃ fd, FunD K "__init__" "Course.__init__" (defArgs s_Course_init) (defBody s_Course_init) (defScope s_Course_init) [] [] (He.ma K (He.ga K "Course") "__init__") fd
  F_first_moments : ∃ fd, FunD K "first_moments" "first_moments" (defArgs s_first_moments) (defBody s_first_moments) (defScope s_first_moments) [] [] (He.ga K "first_moments") fd
  F_want_wet : ∃ fd, FunD K "want_wet" "want_wet" (defArgs s_want_wet) (defBody s_want_wet) (defScope s_want_wet) [] [] (He.ga K "want_wet") fd
  F_all_times : ∃ fd, FunD K "all_times" "all_times" (defArgs s_all_times) (defBody s_all_times) (defScope s_all_times) [] [] (He.ga K "all_times") fd
  F_web : ∃ fd, FunD K "web" "web" (defArgs s_web) (defBody s_web) (defScope s_web) [] [] (He.ga K "web") fd
  F_parted : ∃ fd, FunD K "parted" "parted" (defArgs s_parted) (defBody s_parted) (defScope s_parted) [] [] (He.ga K "parted") fd
  F_law_source_of : ∃ fd, FunD K "_law_source_of" "_law_source_of" (defArgs s_law_source_of) (defBody s_law_source_of) (defScope s_law_source_of) [] [] (He.ga K "_law_source_of") fd
  F_law_next : ∃ fd, FunD K "_law_next" "_law_next" (defArgs s_law_next) (defBody s_law_next) (defScope s_law_next) [] [] (He.ga K "_law_next") fd
  F_law_one : ∃ fd, FunD K "_law_one" "_law_one" (defArgs s_law_one) (defBody s_law_one) (defScope s_law_one) [] [] (He.ga K "_law_one") fd
  F_law_cell_at : ∃ fd, FunD K "_law_cell_at" "_law_cell_at" (defArgs s_law_cell_at) (defBody s_law_cell_at) (defScope s_law_cell_at) [] [] (He.ga K "_law_cell_at") fd
  F_law_mixed : ∃ fd, FunD K "_law_mixed" "_law_mixed" (defArgs s_law_mixed) (defBody s_law_mixed) (defScope s_law_mixed) [] [] (He.ga K "_law_mixed") fd
  F_law_spec : ∃ fd, FunD K "_law_spec" "_law_spec" (defArgs s_law_spec) (defBody s_law_spec) (defScope s_law_spec) [] [] (He.ga K "_law_spec") fd
  F_law_shop : ∃ fd, FunD K "_law_shop" "_law_shop" (defArgs s_law_shop) (defBody s_law_shop) (defScope s_law_shop) [] [] (He.ga K "_law_shop") fd
  F_law_plies : ∃ fd, FunD K "_law_plies" "_law_plies" (defArgs s_law_plies) (defBody s_law_plies) (defScope s_law_plies) [] [] (He.ga K "_law_plies") fd
  F_law_row : ∃ fd, FunD K "_law_row" "_law_row" (defArgs s_law_row) (defBody s_law_row) (defScope s_law_row) [] [] (He.ga K "_law_row") fd
  F_law_behind : ∃ fd, FunD K "_law_behind" "_law_behind" (defArgs s_law_behind) (defBody s_law_behind) (defScope s_law_behind) [] [] (He.ga K "_law_behind") fd
  F_law : ∃ fd, FunD K "law" "law" (defArgs s_law) (defBody s_law) (defScope s_law) [] [] (He.ga K "law") fd
  sides : ∀ H : Hp, SqT K H (He.ga K "SIDES") [.str "back", .str "front"]
  ends : ∀ H : Hp, SqT K H (He.ga K "ENDS") [.str "head", .str "tail"]
  drum : ∀ (H : Hp) (a dx : Addr) (fs : List (Str × V)), H a = some (.ins (He.ga K "Drum") dx fs) → TyX K H (.ref a) (.ref (He.ga K "Drum"))
  isDrum : PySem.W.kitOne K (.ref (He.ga K "Drum")) (.ref (He.ga K "Drum")) = some true
section
variable {K : PySem.W.Frag} {h : Heap} {mg : Str → Option Value} {w : World}
theorem ba {a b : Bool} (h : (a && b) = true) : a = true ∧ b = true := by simpa using h
theorem tx_of (X : K.In h) (G : h.Ns mainGlobals mg) (c0 : He.SaysX fa fn [] [] ex w h K) : Tx K mg := by
  have c : He.SaysD fa fn K := c0.t.d
  obtain ⟨e1, e2⟩ := ba c0.more
  obtain ⟨e2, e3⟩ := ba e2
  obtain ⟨e3, e4⟩ := ba e3
  obtain ⟨e4, e5⟩ := ba e4
  obtain ⟨e5, e6⟩ := ba e5
  obtain ⟨e6, e7⟩ := ba e6
  have kd : Cls K (He.ga K "Drum") := He.cls_ok (c.fact 64 (f := .cls "Drum") rfl)
  exact {
    g_WetError := He.glo_ok X G (c.fact 0 (f := .glo "WetError") rfl)
    g_BadDrum := He.glo_ok X G (c.fact 1 (f := .glo "BadDrum") rfl)
    g_NoTurn := He.glo_ok X G (c.fact 2 (f := .glo "NoTurn") rfl)
    g_NoCell := He.glo_ok X G (c.fact 3 (f := .glo "NoCell") rfl)
    g_BadShop := He.glo_ok X G (c.fact 4 (f := .glo "BadShop") rfl)
    g_NoBeats := He.glo_ok X G (c.fact 5 (f := .glo "NoBeats") rfl)
    g_BadRow := He.glo_ok X G (c.fact 6 (f := .glo "BadRow") rfl)
    g_is_whole := He.glo_ok X G (c.fact 7 (f := .glo "is_whole") rfl)
    g_root_of := He.glo_ok X G (c.fact 8 (f := .glo "root_of") rfl)
    i_MOST := He.int_ok X G (c.fact 9 (f := .int "MOST" 1000000000000000) rfl)
    g_Drum := He.glo_ok X G (c.fact 10 (f := .glo "Drum") rfl)
    i_MOST_DRUMS := He.int_ok X G (c.fact 11 (f := .int "MOST_DRUMS" 3) rfl)
    i_MOST_STRIPS := He.int_ok X G (c.fact 12 (f := .int "MOST_STRIPS" 6) rfl)
    i_MOST_CELLS := He.int_ok X G (c.fact 13 (f := .int "MOST_CELLS" 40) rfl)
    g_SIDES := He.glo_ok X G (c.fact 14 (f := .glo "SIDES") rfl)
    g_is_from := He.glo_ok X G (c.fact 15 (f := .glo "is_from") rfl)
    g_want_many := He.glo_ok X G (c.fact 16 (f := .glo "want_many") rfl)
    g_Shop := He.glo_ok X G (c.fact 17 (f := .glo "Shop") rfl)
    g_ENDS := He.glo_ok X G (c.fact 18 (f := .glo "ENDS") rfl)
    i_MOST_PLIES := He.int_ok X G (c.fact 19 (f := .int "MOST_PLIES" 3) rfl)
    g_is_ply := He.glo_ok X G (c.fact 20 (f := .glo "is_ply") rfl)
    g_wrong_ply := He.glo_ok X G (c.fact 21 (f := .glo "wrong_ply") rfl)
    g_faces_at := He.glo_ok X G (c.fact 22 (f := .glo "faces_at") rfl)
    g_layers_of := He.glo_ok X G (c.fact 23 (f := .glo "layers_of") rfl)
    g_Rolling := He.glo_ok X G (c.fact 24 (f := .glo "Rolling") rfl)
    i_MOST_DEEDS := He.int_ok X G (c.fact 25 (f := .int "MOST_DEEDS" 40) rfl)
    g_is_count := He.glo_ok X G (c.fact 26 (f := .glo "is_count") rfl)
    g_is_deed := He.glo_ok X G (c.fact 27 (f := .glo "is_deed") rfl)
    g_want_row := He.glo_ok X G (c.fact 28 (f := .glo "want_row") rfl)
    g_Span := He.glo_ok X G (c.fact 29 (f := .glo "Span") rfl)
    g_Course := He.glo_ok X G (c.fact 30 (f := .glo "Course") rfl)
    g_first_moments := He.glo_ok X G (c.fact 31 (f := .glo "first_moments") rfl)
    g_want_wet := He.glo_ok X G (c.fact 32 (f := .glo "want_wet") rfl)
    g_all_times := He.glo_ok X G (c.fact 33 (f := .glo "all_times") rfl)
    g_web := He.glo_ok X G (c.fact 34 (f := .glo "web") rfl)
    g_parted := He.glo_ok X G (c.fact 35 (f := .glo "parted") rfl)
    g_law_source_of := He.glo_ok X G (c.fact 36 (f := .glo "_law_source_of") rfl)
    g_law_next := He.glo_ok X G (c.fact 37 (f := .glo "_law_next") rfl)
    g_law_one := He.glo_ok X G (c.fact 38 (f := .glo "_law_one") rfl)
    g_law_cell_at := He.glo_ok X G (c.fact 39 (f := .glo "_law_cell_at") rfl)
    g_law_mixed := He.glo_ok X G (c.fact 40 (f := .glo "_law_mixed") rfl)
    g_law_spec := He.glo_ok X G (c.fact 41 (f := .glo "_law_spec") rfl)
    g_law_shop := He.glo_ok X G (c.fact 42 (f := .glo "_law_shop") rfl)
    g_law_plies := He.glo_ok X G (c.fact 43 (f := .glo "_law_plies") rfl)
    g_law_row := He.glo_ok X G (c.fact 44 (f := .glo "_law_row") rfl)
    g_law_behind := He.glo_ok X G (c.fact 45 (f := .glo "_law_behind") rfl)
    g_law := He.glo_ok X G (c.fact 46 (f := .glo "law") rfl)
    n_len := He.free_ok X G (c.fact 47 (f := .free "len") rfl)
    n_isinstance := He.free_ok X G (c.fact 48 (f := .free "isinstance") rfl)
    n_max := He.free_ok X G (c.fact 49 (f := .free "max") rfl)
    n_min := He.free_ok X G (c.fact 50 (f := .free "min") rfl)
    n_sorted := He.free_ok X G (c.fact 51 (f := .free "sorted") rfl)
    n_list := He.free_ok X G (c.fact 52 (f := .free "list") rfl)
    n_dict := He.free_ok X G (c.fact 53 (f := .free "dict") rfl)
    n_set := He.free_ok X G (c.fact 54 (f := .free "set") rfl)
    n_tuple := He.free_ok X G (c.fact 55 (f := .free "tuple") rfl)
    n_range := He.free_ok X G (c.fact 56 (f := .free "range") rfl)
    n_enumerate := He.free_ok X G (c.fact 57 (f := .free "enumerate") rfl)
    n_zip := He.free_ok X G (c.fact 58 (f := .free "zip") rfl)
    n_int := He.free_ok X G (c.fact 59 (f := .free "int") rfl)
    n_bool := He.free_ok X G (c.fact 60 (f := .free "bool") rfl)
    n_str := He.free_ok X G (c.fact 61 (f := .free "str") rfl)
    n_sum := He.free_ok X G (c.fact 62 (f := .free "sum") rfl)
    n_repr := He.free_ok X G (c.fact 63 (f := .free "repr") rfl)
    c_Drum := He.cls_ok (c.fact 64 (f := .cls "Drum") rfl)
    m_Drum := He.mkr_ok (c.fact 65 (f := .mkr "Drum") rfl)
    k_Drum := He.keep_ok (c.fact 66 (f := .keep "Drum") rfl)
    a_Drum_least := He.noat_ok (c.fact 67 (f := .noat "Drum" "least") rfl)
    a_Drum_more := He.noat_ok (c.fact 68 (f := .noat "Drum" "more") rfl)
    c_Shop := He.cls_ok (c.fact 69 (f := .cls "Shop") rfl)
    m_Shop := He.mkr_ok (c.fact 70 (f := .mkr "Shop") rfl)
    k_Shop := He.keep_ok (c.fact 71 (f := .keep "Shop") rfl)
    a_Shop_rollers := He.noat_ok (c.fact 72 (f := .noat "Shop" "rollers") rfl)
    a_Shop_lengths := He.noat_ok (c.fact 73 (f := .noat "Shop" "lengths") rfl)
    c_Rolling := He.cls_ok (c.fact 74 (f := .cls "Rolling") rfl)
    m_Rolling := He.mkr_ok (c.fact 75 (f := .mkr "Rolling") rfl)
    k_Rolling := He.keep_ok (c.fact 76 (f := .keep "Rolling") rfl)
    a_Rolling_drum_at := He.noat_ok (c.fact 77 (f := .noat "Rolling" "drum_at") rfl)
    a_Rolling_roller := He.noat_ok (c.fact 78 (f := .noat "Rolling" "roller") rfl)
    a_Rolling_layers := He.noat_ok (c.fact 79 (f := .noat "Rolling" "layers") rfl)
    a_Rolling_nexts := He.noat_ok (c.fact 80 (f := .noat "Rolling" "nexts") rfl)
    a_Rolling_rounds := He.noat_ok (c.fact 81 (f := .noat "Rolling" "rounds") rfl)
    c_Span := He.cls_ok (c.fact 82 (f := .cls "Span") rfl)
    m_Span := He.mkr_ok (c.fact 83 (f := .mkr "Span") rfl)
    k_Span := He.keep_ok (c.fact 84 (f := .keep "Span") rfl)
    a_Span_low := He.noat_ok (c.fact 85 (f := .noat "Span" "low") rfl)
    a_Span_high := He.noat_ok (c.fact 86 (f := .noat "Span" "high") rfl)
    a_Span_lying := He.noat_ok (c.fact 87 (f := .noat "Span" "lying") rfl)
    c_Course := He.cls_ok (c.fact 88 (f := .cls "Course") rfl)
    m_Course := He.mkr_ok (c.fact 89 (f := .mkr "Course") rfl)
    k_Course := He.keep_ok (c.fact 90 (f := .keep "Course") rfl)
    a_Course_spans := He.noat_ok (c.fact 91 (f := .noat "Course" "spans") rfl)
    a_Course_total := He.noat_ok (c.fact 92 (f := .noat "Course" "total") rfl)
    t_Drum_first := He.meth_ok (c.fact 93 (f := .meth "Drum" "first") rfl)
    t_Drum_step := He.meth_ok (c.fact 94 (f := .meth "Drum" "step") rfl)
    t_Drum_size := He.meth_ok (c.fact 95 (f := .meth "Drum" "size") rfl)
    t_Drum_begins := He.meth_ok (c.fact 96 (f := .meth "Drum" "begins") rfl)
    t_Drum_where := He.meth_ok (c.fact 97 (f := .meth "Drum" "where") rfl)
    t_Drum_turn_of := He.meth_ok (c.fact 98 (f := .meth "Drum" "turn_of") rfl)
    t_Shop_faces := He.meth_ok (c.fact 99 (f := .meth "Shop" "faces") rfl)
    t_Rolling_under := He.meth_ok (c.fact 100 (f := .meth "Rolling" "under") rfl)
    t_Rolling_pairs := He.meth_ok (c.fact 101 (f := .meth "Rolling" "pairs") rfl)
    t_Rolling_near := He.meth_ok (c.fact 102 (f := .meth "Rolling" "near") rfl)
    t_Rolling_around := He.meth_ok (c.fact 103 (f := .meth "Rolling" "around") rfl)
    t_Span_around := He.meth_ok (c.fact 104 (f := .meth "Span" "around") rfl)
    F_is_whole := c.def_ 0 (d := d_is_whole) rfl
    F_root_of := c.def_ 1 (d := d_root_of) rfl
    F_Drum_init := c.def_ 2 (d := d_Drum_init) rfl
    F_Drum_first := c.def_ 3 (d := d_Drum_first) rfl
    F_Drum_step := c.def_ 4 (d := d_Drum_step) rfl
    F_Drum_size := c.def_ 5 (d := d_Drum_size) rfl
    F_Drum_begins := c.def_ 6 (d := d_Drum_begins) rfl
    F_Drum_where := c.def_ 7 (d := d_Drum_where) rfl
    F_Drum_turn_of := c.def_ 8 (d := d_Drum_turn_of) rfl
    F_is_from := c.def_ 9 (d := d_is_from) rfl
    F_want_many := c.def_ 10 (d := d_want_many) rfl
    F_Shop_init := c.def_ 11 (d := d_Shop_init) rfl
    F_Shop_faces := c.def_ 12 (d := d_Shop_faces) rfl
    F_is_ply := c.def_ 13 (d := d_is_ply) rfl
    F_wrong_ply := c.def_ 14 (d := d_wrong_ply) rfl
    F_faces_at := c.def_ 15 (d := d_faces_at) rfl
    F_layers_of := c.def_ 16 (d := d_layers_of) rfl
    F_Rolling_init := c.def_ 17 (d := d_Rolling_init) rfl
    F_Rolling_under := c.def_ 18 (d := d_Rolling_under) rfl
    F_Rolling_pairs := c.def_ 19 (d := d_Rolling_pairs) rfl
    F_Rolling_near := c.def_ 20 (d := d_Rolling_near) rfl
    F_Rolling_around := c.def_ 21 (d := d_Rolling_around) rfl
    F_is_count := c.def_ 22 (d := d_is_count) rfl
    F_is_deed := c.def_ 23 (d := d_is_deed) rfl
    F_want_row := c.def_ 24 (d := d_want_row) rfl
    F_Span_init := c.def_ 25 (d := d_Span_init) rfl
    F_Span_around := c.def_ 26 (d := d_Span_around) rfl
    F_Course_init := c.def_ 27 (d := d_Course_init) rfl
    F_first_moments := c.def_ 28 (d := d_first_moments) rfl
    F_want_wet := c.def_ 29 (d := d_want_wet) rfl
    F_all_times := c.def_ 30 (d := d_all_times) rfl
    F_web := c.def_ 31 (d := d_web) rfl
    F_parted := c.def_ 32 (d := d_parted) rfl
    F_law_source_of := c.def_ 33 (d := d_law_source_of) rfl
    F_law_next := c.def_ 34 (d := d_law_next) rfl
    F_law_one := c.def_ 35 (d := d_law_one) rfl
    F_law_cell_at := c.def_ 36 (d := d_law_cell_at) rfl
    F_law_mixed := c.def_ 37 (d := d_law_mixed) rfl
    F_law_spec := c.def_ 38 (d := d_law_spec) rfl
    F_law_shop := c.def_ 39 (d := d_law_shop) rfl
    F_law_plies := c.def_ 40 (d := d_law_plies) rfl
    F_law_row := c.def_ 41 (d := d_law_row) rfl
    F_law_behind := c.def_ 42 (d := d_law_behind) rfl
    F_law := c.def_ 43 (d := d_law) rfl
    sides := fun H => He.tupB_ok e1 H
    ends := fun H => He.tupB_ok e2 H
    drum := fun H a dx fs e => .base (.ins e kd (of_decide_eq_true e3) (of_decide_eq_true e4) (of_decide_eq_true e5) (of_decide_eq_true e6))
    isDrum := of_decide_eq_true e7 }
end
/-- the def at f keeps its promise -/
structure Dn (P : Program) (w : World) (K : PySem.W.Frag) (mg : Str → Option Value) (base : Heap) (k : Nat) (f : Addr) (ps : List Str) (sp : Sp) : Prop where
  ex : ∃ fd, FnOk P w K mg base CX0 k f fd ps sp ∧ Binds K fd ps []
  kp : PySem.W.keepIn K (.ref f) = true
theorem dn_of {P : Program} {w : World} {K : PySem.W.Frag} {mg : Str → Option Value} {base : Heap} {x qual : Str} {params : Arguments} {body : List Stmt} {scope : Scope} {f : Addr} {N ps : List Str} {k : Nat} {sp : Sp} (h : ∃ fd, FunD K x qual params body scope [] [] f fd) (S : FnScope N ps scope)
    (bind : ∀ (kV doc pm : Value) (an : Option Addr) (cdv ct : Value) (us : List Value), us.length = ps.length → bindArgs (PySem.W.fnOf x qual params body scope .none kV doc pm an cdv ct) ⟨us, []⟩ = pure (ps.zip us))
    (len : ∀ vs H Q E, sp vs H Q E → vs.length = ps.length)
    (hbody : ∀ (cdv : Value) (A : Around) (outer : List Env) (s : Shared) (H : Hp) (vs : List V) (Q : VK) (E : XK), Room k (A.deeper (envOfC qual scope s.heap.objs.size f cdv)) → sp vs H Q E →
      ∃ t, PSs (cxOf CX0 P w K mg base N qual scope f cdv A outer s H E).nox body t ∧ t { nx := fun _ H' => Q .non H', rt := Q } (start N vs) H) : Dn P w K mg base (k + 1) f ps sp := by
  obtain ⟨fd, F⟩ := h
  refine ⟨⟨fd, F.ok S len fun cdv A outer s H vs Q E hr hsp => ?_, F.bindsN bind⟩, F.kp⟩
  obtain ⟨t, h, q⟩ := hbody cdv A outer s H vs Q E hr hsp
  exact ⟨t, h.nox, q⟩
section
variable {X : Cx} {k n : Nat} {f C : Addr} {ps : List Str} {sp : Sp} {x m : Str} {p pos apos : Pos} {e o : Expr} {es : List Expr} {ta : TE} {t : TA}
theorem pc (G : Dn X.prog X.w X.K X.mg X.base k f ps sp) (hr : Room n X.A) (hg : Gl X x) (hm : X.mg x = some (.ref f)) (ha : PA X (e :: es) t) (hk : k ≤ n := by decide) (hdb : (x == ("__debug__" : Str)) = false := by decide)
    (he : starEach (e :: es) X.env = (false, eval e X.env) :: starEach es X.env := by rfl) (hpl : (backTo pos (starEach es X.env)).any (·.1) = false := by rfl) : PE X (.Call (.Name x p) (e :: es) [] pos) (tCall sp [] E0 t) := by
  obtain ⟨fd, F, b⟩ := G.ex
  exact pe_call F (hr.mono hk) hg hm G.kp b .nil pass0 ha hdb he hpl
theorem pm {pl : Sem Bool} (he : PE X o ta) (c : Cls X.K C) (hm : Meth X.K C m f) (G : Dn X.prog X.w X.K X.mg X.base k f ps sp) (hr : Room n X.A) (ha : PA X (e :: es) t) (hk : k ≤ n := by decide)
    (hst : starEach (e :: es) X.env = (false, eval e X.env) :: starEach es X.env := by rfl) (hpl : (backTo pos (starEach es X.env)).any (·.1) = false := by rfl)
    (ht : eval (.Call (.Attribute o m apos) (e :: es) [] pos) X.env = (do
      let ov ← eval o X.env
      standAt apos.atName
      let (f, first) ← holding [ov] (getMethod ov m pl)
      callWith pos f first (backTo pos (starEach (e :: es) X.env)) (backToKw pos (keywordEach [] X.env))) := by rfl) : PE X (.Call (.Attribute o m apos) (e :: es) [] pos) (tMeth C m sp [] E0 ta t) := by
  obtain ⟨fd, F, b⟩ := G.ex
  exact pe_meth (pl := pl) he c hm F (hr.mono hk) b .nil pass0 ha hst hpl ht
theorem pm0 {pl : Sem Bool} (he : PE X o ta) (c : Cls X.K C) (hm : Meth X.K C m f) (G : Dn X.prog X.w X.K X.mg X.base k f ps sp) (hr : Room n X.A) (hk : k ≤ n := by decide)
    (ht : eval (.Call (.Attribute o m apos) [] [] pos) X.env = (do
      let ov ← eval o X.env
      standAt apos.atName
      let (f, first) ← holding [ov] (getMethod ov m pl)
      callWith pos f first (backTo pos (starEach [] X.env)) (backToKw pos (keywordEach [] X.env))) := by rfl) : PE X (.Call (.Attribute o m apos) [] [] pos) (tMeth C m sp [] E0 ta tNil) := by
  obtain ⟨fd, F, b⟩ := G.ex
  exact pe_meth0 (pl := pl) he c hm F (hr.mono hk) b .nil pass0 ht
theorem pk (M : Mk X.K C f) (G : Dn X.prog X.w X.K X.mg X.base k f ps sp) (hr : Room n X.A) (hg : Gl X x) (hm : X.mg x = some (.ref C)) (ha : PA X (e :: es) t) (hk : k + 1 ≤ n := by decide) (hdb : (x == ("__debug__" : Str)) = false := by decide)
    (he : starEach (e :: es) X.env = (false, eval e X.env) :: starEach es X.env := by rfl) (hpl : (backTo pos (starEach es X.env)).any (·.1) = false := by rfl) : PE X (.Call (.Name x p) (e :: es) [] pos) (tMake C sp [] E0 t) := by
  obtain ⟨fd, F, b⟩ := G.ex
  exact pe_make M F (hr.mono hk) hg hm b .nil pass0 ha hdb he hpl
theorem pe_gi {v : Int} (hg : Gl X x) (h : ∃ t, X.mg x = some (.int v t)) (hd : (x == ("__debug__" : Str)) = false := by decide) : PE X (.Name x pos) (tC (.int v)) := by
  obtain ⟨t, h⟩ := h
  exact pe_glob hg h ⟨_, rfl⟩ hd
end
end Wm
end
section
set_option Elab.async false
set_option linter.all false
set_option maxRecDepth 100000
set_option maxHeartbeats 4000000
/-! Plain: where a drum's turns begin. -/
namespace WmM
set_option autoImplicit false
def bgn (f s t : Int) : Int := t * f + s * (t * (t - 1)).fdiv 2
theorem tri (t : Int) : (t * (t - 1)).fdiv 2 + t = ((t + 1) * (t + 1 - 1)).fdiv 2 := by
  rw [Int.fdiv_eq_ediv_of_nonneg _ (by decide), Int.fdiv_eq_ediv_of_nonneg _ (by decide)]
  have e : (t + 1) * (t + 1 - 1) = t * (t - 1) + t * 2 := by
    rw [Int.add_sub_cancel, Int.add_mul, Int.one_mul, Int.mul_sub, Int.mul_one]
    omega
  rw [e, Int.add_mul_ediv_right _ _ (by decide)]
theorem bgn0 (f s : Int) : bgn f s 0 = 0 := by simp [bgn]
theorem bgn1 (f s t : Int) : bgn f s (t + 1) = bgn f s t + (f + t * s) := by
  unfold bgn
  rw [← tri, Int.add_mul, Int.one_mul, Int.mul_add, Int.mul_comm t s]
  omega
/-- at least t -/
theorem bgn_ge {f s : Int} (hf : 1 ≤ f) (hs : 0 ≤ s) : ∀ n : Nat, (n : Int) ≤ bgn f s n
  | 0 => by rw [show ((0 : Nat) : Int) = 0 from rfl, bgn0]; exact Int.le_refl _
  | n + 1 => by
    have h := bgn_ge hf hs n
    rw [show ((n + 1 : Nat) : Int) = (n : Int) + 1 from rfl, bgn1]
    have := Int.mul_nonneg (Int.natCast_nonneg n) hs
    omega
theorem bgn_mono {f s : Int} (hf : 1 ≤ f) (hs : 0 ≤ s) {a : Int} (ha : 0 ≤ a) : ∀ n : Nat, bgn f s a + n ≤ bgn f s (a + n)
  | 0 => by simp
  | n + 1 => by
    have h := bgn_mono hf hs ha n
    have e : a + ((n + 1 : Nat) : Int) = (a + n) + 1 := by omega
    rw [e, bgn1]
    have := Int.mul_nonneg (show 0 ≤ a + n by omega) hs
    omega
theorem bgn_lt {f s a b : Int} (hf : 1 ≤ f) (hs : 0 ≤ s) (ha : 0 ≤ a) (h : a < b) : bgn f s a < bgn f s b := by
  have q := bgn_mono hf hs ha (b - a).toNat
  have e : a + ((b - a).toNat : Int) = b := by omega
  rw [e] at q
  omega
theorem bgn_le {f s a b : Int} (hf : 1 ≤ f) (hs : 0 ≤ s) (ha : 0 ≤ a) (h : a ≤ b) : bgn f s a ≤ bgn f s b := by
  have q := bgn_mono hf hs ha (b - a).toNat
  have e : a + ((b - a).toNat : Int) = b := by omega
  rw [e] at q
  omega
/-- cell c lies on turn t -/
structure Turn (f s c t : Int) : Prop where
  nn : 0 ≤ t
  lo : bgn f s t ≤ c
  hi : c < bgn f s (t + 1)
theorem turn_uniq {f s c t u : Int} (hf : 1 ≤ f) (hs : 0 ≤ s) (a : Turn f s c t) (b : Turn f s c u) : t = u := by
  rcases Int.lt_trichotomy t u with h | h | h
  · have := bgn_le hf hs (by have := a.nn; omega) (show t + 1 ≤ u by omega)
    have := a.hi
    have := b.lo
    omega
  · exact h
  · have := bgn_le hf hs (by have := b.nn; omega) (show u + 1 ≤ t by omega)
    have := b.hi
    have := a.lo
    omega
theorem turn_le {f s c t : Int} (hf : 1 ≤ f) (hs : 0 ≤ s) (a : Turn f s c t) : t ≤ c := by
  have h := bgn_ge hf hs t.toNat
  have e : ((t.toNat : Nat) : Int) = t := Int.toNat_of_nonneg a.nn
  rw [e] at h
  have := a.lo
  omega
theorem turn0 {f s c : Int} (hf : 1 ≤ f) (hs : 0 ≤ s) (a : Turn f s c 0) : 0 ≤ c ∧ c < f := by
  have h1 := a.lo
  have h2 := a.hi
  rw [bgn0] at h1
  rw [bgn1, bgn0] at h2
  exact ⟨h1, by omega⟩
end WmM
end
section
set_option Elab.async false
set_option linter.all false
set_option maxRecDepth 100000
set_option maxHeartbeats 4000000
/-! The drums, walked. -/
namespace Wm
open PySem PySem.Spec PyProof.Rows L2 WmM
set_option autoImplicit false
theorem ifT {b : Bool} {A B : Prop} (hb : b = true) (h : A) : if b = true then A else B := by rw [if_pos hb]; exact h
theorem ifF {b : Bool} {A B : Prop} (hb : b = false) (h : B) : if b = true then A else B := by rw [hb]; exact iteF h
theorem ifd {p : Prop} [Decidable p] {A B : Prop} (h1 : p → A) (h2 : ¬ p → B) : if decide p = true then A else B := by
  by_cases h : p
  · exact ifT (decide_eq_true h) (h1 h)
  · exact ifF (decide_eq_false h) (h2 h)
theorem look0 {a : Str} {x : V} {r : List (Str × V)} : List.lookup a ((a, x) :: r) = some x := by simp [List.lookup]
theorem look1 {a b : Str} {x : V} {r : List (Str × V)} (h : ¬ a = b) : List.lookup a ((b, x) :: r) = List.lookup a r := by
  have e : (a == b) = false := beq_eq_false_iff_ne.mpr h
  simp [List.lookup, e]
theorem putF0 {a : Str} {x : V} : putF a x [] = [(a, x)] := rfl
theorem putF1 {a b : Str} {x y : V} {r : List (Str × V)} (h : ¬ a = b) : putF b y ((a, x) :: r) = (a, x) :: putF b y r := by
  show (if a = b then _ else _) = _
  rw [if_neg h]
theorem putFs {a : Str} {x y : V} {r : List (Str × V)} : putF a y ((a, x) :: r) = (a, y) :: r := by
  show (if a = a then _ else _) = _
  rw [if_pos rfl]
section
variable {X : Cx}
theorem twoI {K : PySem.W.Frag} {H : Hp} (i j : Int) : TwoD K H (.int i) (.int j) (.int i) (.int j) := by
  refine ⟨.int _, .int _, ⟨fun x hx y hy => ?_, fun x hx => ?_⟩, by show 0 ≤ 8; decide, by show 0 ≤ 8; decide⟩
  · simp only [List.mem_cons, List.not_mem_nil, or_false] at hx hy
    rcases hx with rfl | rfl <;> rcases hy with rfl | rfl <;> rfl
  · simp only [List.mem_cons, List.not_mem_nil, or_false] at hx
    rcases hx with rfl | rfl <;> exact fun z => nomatch z
theorem cr_min2I (hc : X.calm = true) (hu : X.A.units + 64 < cLine) : CallR X (.builtin "min") (fun vs H Q => ∃ i j : Int, vs = [.int i, .int j] ∧ Q (.int (min i j)) H) := by
  intro pins s σ H vs us Q I r h
  obtain ⟨i, j, rfl, q⟩ := h
  refine cr_min2 hc hu pins s σ H _ us Q I r ⟨_, _, _, _, rfl, twoI i j, ?_⟩
  rw [PySem.W.dataLt_int]
  by_cases h : j < i
  · rw [decide_eq_true h, if_pos rfl]
    rw [Int.min_eq_right (by omega)] at q
    exact q
  · rw [decide_eq_false h, if_neg Bool.false_ne_true]
    rw [Int.min_eq_left (by omega)] at q
    exact q
theorem cr_max2I (hc : X.calm = true) (hu : X.A.units + 64 < cLine) : CallR X (.builtin "max") (fun vs H Q => ∃ i j : Int, vs = [.int i, .int j] ∧ Q (.int (max i j)) H) := by
  intro pins s σ H vs us Q I r h
  obtain ⟨i, j, rfl, q⟩ := h
  refine cr_max2 hc hu pins s σ H _ us Q I r ⟨_, _, _, _, rfl, twoI i j, ?_⟩
  rw [PySem.W.dataLt_int]
  by_cases h : i < j
  · rw [decide_eq_true h, if_pos rfl]
    rw [Int.max_eq_right (by omega)] at q
    exact q
  · rw [decide_eq_false h, if_neg Bool.false_ne_true]
    rw [Int.max_eq_left (by omega)] at q
    exact q
end
abbrev fsD (f s : Int) : List (Str × V) := [("least", .int f), ("more", .int s)]
/-- a drum -/
structure DrumR (f s : Int) : Prop where
  f1 : 1 ≤ f
  f2 : f ≤ 40
  s1 : 0 ≤ s
  s2 : s ≤ 40
def DrumAt (K : PySem.W.Frag) (H : Hp) (p : Addr) (f s : Int) : Prop := ∃ dx, H p = some (.ins (He.ga K "Drum") dx (fsD f s))
def sp_is_whole : Sp := fun vs H Q _ => ∃ n, vs = [.int n] ∧ Q (.bl true) H
def sp_Drum_init (K : PySem.W.Frag) : Sp := fun vs H Q _ => ∃ (p dx : Addr) (f s : Int), vs = [.ref p, .int f, .int s] ∧ DrumR f s ∧ H p = some (.ins (He.ga K "Drum") dx []) ∧ Q .non (upd H p (.ins (He.ga K "Drum") dx (fsD f s)))
def sp_Drum_first (K : PySem.W.Frag) : Sp := fun vs H Q _ => ∃ (p : Addr) (f s : Int), vs = [.ref p] ∧ DrumAt K H p f s ∧ Q (.int f) H
def sp_Drum_step (K : PySem.W.Frag) : Sp := fun vs H Q _ => ∃ (p : Addr) (f s : Int), vs = [.ref p] ∧ DrumAt K H p f s ∧ Q (.int s) H
def sp_Drum_size (K : PySem.W.Frag) : Sp := fun vs H Q _ => ∃ (p : Addr) (f s t : Int), vs = [.ref p, .int t] ∧ DrumAt K H p f s ∧ 0 ≤ t ∧ t < 2 ^ 30 ∧ Q (.int (f + t * s)) H
def sp_Drum_begins (K : PySem.W.Frag) : Sp := fun vs H Q _ => ∃ (p : Addr) (f s t : Int), vs = [.ref p, .int t] ∧ DrumAt K H p f s ∧ DrumR f s ∧ 0 ≤ t ∧ t < 2 ^ 30 ∧ Q (.int (bgn f s t)) H
def sp_root_of : Sp := fun vs H Q _ => ∃ n : Int, vs = [.int n] ∧ 0 ≤ n ∧ n < 2 ^ 30 ∧ ∀ r : Int, 0 ≤ r → r ≤ 2 ^ 16 → Q (.int r) H
def sp_Drum_turn_of (K : PySem.W.Frag) : Sp := fun vs H Q _ => ∃ (p : Addr) (f s c : Int), vs = [.ref p, .int c] ∧ DrumAt K H p f s ∧ DrumR f s ∧ 0 ≤ c ∧ c ≤ 100 ∧ ∀ t, Turn f s c t → Q (.int t) H
def sp_Drum_where (K : PySem.W.Frag) : Sp := fun vs H Q _ => ∃ (p : Addr) (f s c : Int), vs = [.ref p, .int c] ∧ DrumAt K H p f s ∧ DrumR f s ∧ 0 ≤ c ∧ c ≤ 100 ∧ ∀ t a, Turn f s c t → H a = none → Q (.ref a) (upd H a (.tup [.int t, .int (c - bgn f s t), .int (f + t * s)]))
section
variable {P : Program} {w : World} {K : PySem.W.Frag} {mg : Str → Option Value} {base : Heap}
theorem nLM : ¬ ("more" : Str) = "least" := by decide +kernel
theorem lkL {f s : Int} : (fsD f s).lookup ("least" : Str) = some (.int f) := look0
theorem lkM {f s : Int} : (fsD f s).lookup ("more" : Str) = some (.int s) := by rw [look1 nLM, look0]
theorem ok_is_whole (T : Tx K mg) : Dn P w K mg base 1 (He.ga K "is_whole") ["thing"] sp_is_whole := by
  refine dn_of T.F_is_whole sc_is_whole (fun _ _ _ _ _ _ us hl => match us, hl with | [_], _ => rfl) (fun vs H Q E h => ?_) (fun cdv A outer s H vs Q E hr h => ?_)
  · obtain ⟨n, rfl, _⟩ := h
    rfl
  · obtain ⟨n, rfl, k⟩ := h
    refine ⟨_, (pss_one (ps_ret (pe_and (pe_callB call_isi (by rfl) T.n_isinstance (by decide +kernel) (pa_cons (pv 0) (pa_cons (pe_bltn (v := .ty "int") rfl T.n_int (by decide +kernel) rfl) pa_nil))) (pe_one (pe_not (pe_callB call_isi (by rfl) T.n_isinstance (by decide +kernel) (pa_cons (pv 0) (pa_cons (pe_bltn (v := .ty "bool") rfl T.n_bool (by decide +kernel) rfl) pa_nil)))))))), ?_⟩
    refine ⟨_, rfl, ⟨_, _, _, _, _, rfl, .ty "int", .base (.int n), kit_ty (r := true) (by decide +kernel), true, rfl, ?_⟩⟩
    refine iteT ⟨_, rfl, _, _, _, _, _, rfl, .ty "bool", .base (.int n), kit_ty (r := false) (by decide +kernel), false, rfl, k⟩
theorem ok_Drum_init (T : Tx K mg) : Dn P w K mg base 2 (He.ma K (He.ga K "Drum") "__init__") ["self", "first", "step"] (sp_Drum_init K) := by
  refine dn_of T.F_Drum_init sc_Drum_init (fun _ _ _ _ _ _ us hl => match us, hl with | [_, _, _], _ => rfl) (fun vs H Q E h => ?_) (fun cdv A outer s H vs Q E hr h => ?_)
  · obtain ⟨_, _, _, _, rfl, _⟩ := h
    rfl
  · obtain ⟨p, dx, f, s, rfl, R, hp, k⟩ := h
    refine ⟨_, (pss_cons (ps_if (PW.pt (pw_or (pt_not (pt_val (pc (ok_is_whole T) hr rfl T.g_is_whole (pa_cons (pv 1) pa_nil)))) (pw_or1 (pt_not (pt_chain op_le op_lt pe_int (pv 1) (pe_gi rfl T.i_MOST)))))) (pss_one ps_never) pss_nil) (pss_cons (ps_if (PW.pt (pw_or (pt_not (pt_val (pc (ok_is_whole T) hr rfl T.g_is_whole (pa_cons (pv 2) pa_nil)))) (pw_or1 (pt_not (pt_chain op_le op_lt pe_int (pv 2) (pe_gi rfl T.i_MOST)))))) (pss_one ps_never) pss_nil) (pss_cons (ps_fld (pv 0) (pv 1) rfl) (pss_one (ps_fld (pv 0) (pv 2) rfl))))), ?_⟩
    have := R.f1; have := R.f2; have := R.s1; have := R.s2
    refine ⟨_, rfl, _, rfl, true, rfl, iteF ⟨_, rfl, _, _, rfl, rfl, _, rfl, ifT (decide_eq_true R.f1) ⟨_, _, rfl, rfl, _, rfl, ?_⟩⟩⟩
    rw [show decide (f < (1000000000000000 : Int)) = true from decide_eq_true (by omega)]
    refine iteF ⟨_, rfl, _, rfl, true, rfl, iteF ⟨_, rfl, _, _, rfl, rfl, _, rfl, ifT (decide_eq_true R.s1) ⟨_, _, rfl, rfl, _, rfl, ?_⟩⟩⟩
    rw [show decide (s < (1000000000000000 : Int)) = true from decide_eq_true (by omega)]
    refine iteF ?_
    refine ⟨_, rfl, _, rfl, p, _, dx, _, rfl, hp, T.c_Drum, T.a_Drum_least, (by show 0 < 1000; decide), ?_⟩
    refine ⟨_, rfl, _, rfl, p, _, dx, _, rfl, upd_same, T.c_Drum, T.a_Drum_more, (by rw [putF0]; show 1 < 1000; decide), ?_⟩
    rw [putF0, putF1 (Ne.symm nLM), putF0, upd_upd]
    exact k
theorem ok_Drum_first (T : Tx K mg) : Dn P w K mg base 1 (He.ma K (He.ga K "Drum") "first") ["self"] (sp_Drum_first K) := by
  refine dn_of T.F_Drum_first sc_Drum_first (fun _ _ _ _ _ _ us hl => match us, hl with | [_], _ => rfl) (fun vs H Q E h => ?_) (fun cdv A outer s H vs Q E hr h => ?_)
  · obtain ⟨_, _, _, rfl, _⟩ := h
    rfl
  · obtain ⟨p, f, s, rfl, ⟨dx, hp⟩, k⟩ := h
    exact ⟨_, (pss_one (ps_ret (pe_fld (pv 0) rfl))), ⟨_, rfl, p, _, dx, _, _, rfl, hp, T.c_Drum, T.a_Drum_least, lkL, k⟩⟩
theorem ok_Drum_step (T : Tx K mg) : Dn P w K mg base 1 (He.ma K (He.ga K "Drum") "step") ["self"] (sp_Drum_step K) := by
  refine dn_of T.F_Drum_step sc_Drum_step (fun _ _ _ _ _ _ us hl => match us, hl with | [_], _ => rfl) (fun vs H Q E h => ?_) (fun cdv A outer s H vs Q E hr h => ?_)
  · obtain ⟨_, _, _, rfl, _⟩ := h
    rfl
  · obtain ⟨p, f, s, rfl, ⟨dx, hp⟩, k⟩ := h
    exact ⟨_, (pss_one (ps_ret (pe_fld (pv 0) rfl))), ⟨_, rfl, p, _, dx, _, _, rfl, hp, T.c_Drum, T.a_Drum_more, lkM, k⟩⟩
theorem ok_Drum_size (T : Tx K mg) : Dn P w K mg base 2 (He.ma K (He.ga K "Drum") "size") ["self", "turn"] (sp_Drum_size K) := by
  refine dn_of T.F_Drum_size sc_Drum_size (fun _ _ _ _ _ _ us hl => match us, hl with | [_, _], _ => rfl) (fun vs H Q E h => ?_) (fun cdv A outer s H vs Q E hr h => ?_)
  · obtain ⟨_, _, _, _, rfl, _⟩ := h
    rfl
  · obtain ⟨p, f, s, t, rfl, ⟨dx, hp⟩, h0, h1, k⟩ := h
    refine ⟨_, (pss_cons (ps_if (PW.pt (pw_or (pt_not (pt_val (pc (ok_is_whole T) hr rfl T.g_is_whole (pa_cons (pv 1) pa_nil)))) (pw_or1 (pt_cmpR op_lt (pv 1) pe_int (nomark _))))) (pss_one ps_never) pss_nil) (pss_one (ps_ret (pe_op op_add (pe_fld (pv 0) rfl) (pe_op op_mul (pv 1) (pe_fld (pv 0) rfl)))))), ?_⟩
    refine ⟨_, rfl, _, rfl, true, rfl, iteF ⟨_, rfl, _, _, rfl, rfl, _, rfl, ifF (decide_eq_false (by omega)) ?_⟩⟩
    exact ⟨_, rfl, p, _, dx, _, _, rfl, hp, T.c_Drum, T.a_Drum_least, lkL, _, rfl, _, rfl, p, _, dx, _, _, rfl, hp, T.c_Drum, T.a_Drum_more, lkM, _, _, rfl, rfl, .inl ⟨by omega, by omega⟩, _, _, rfl, rfl, k⟩
theorem ok_Drum_begins (T : Tx K mg) : Dn P w K mg base 2 (He.ma K (He.ga K "Drum") "begins") ["self", "turn"] (sp_Drum_begins K) := by
  refine dn_of T.F_Drum_begins sc_Drum_begins (fun _ _ _ _ _ _ us hl => match us, hl with | [_, _], _ => rfl) (fun vs H Q E h => ?_) (fun cdv A outer s H vs Q E hr h => ?_)
  · obtain ⟨_, _, _, _, rfl, _⟩ := h
    rfl
  · obtain ⟨p, f, s, t, rfl, ⟨dx, hp⟩, R, h0, h1, k⟩ := h
    have := R.f1; have := R.f2; have := R.s1; have := R.s2
    refine ⟨_, (pss_cons (ps_if (PW.pt (pw_or (pt_not (pt_val (pc (ok_is_whole T) hr rfl T.g_is_whole (pa_cons (pv 1) pa_nil)))) (pw_or1 (pt_cmpR op_lt (pv 1) pe_int (nomark _))))) (pss_one ps_never) pss_nil) (pss_one (ps_ret (pe_op op_add (pe_op op_mul (pv 1) (pe_fld (pv 0) rfl)) (pe_op op_mul (pe_fld (pv 0) rfl) (pe_op op_fdivN (pe_op op_mul (pv 1) (pe_op op_sub (pv 1) pe_int)) pe_int)))))), ?_⟩
    refine ⟨_, rfl, _, rfl, true, rfl, iteF ⟨_, rfl, _, _, rfl, rfl, _, rfl, ifF (decide_eq_false (by omega)) ?_⟩⟩
    exact ⟨_, rfl, _, rfl, p, _, dx, _, _, rfl, hp, T.c_Drum, T.a_Drum_least, lkL, _, _, rfl, rfl, .inl ⟨by omega, by omega⟩, _, rfl, p, _, dx, _, _, rfl, hp, T.c_Drum, T.a_Drum_more, lkM,
      _, rfl, _, rfl, _, _, rfl, rfl, _, _, rfl, rfl, .inl ⟨by omega, by omega⟩, _, _, rfl, rfl, ⟨by decide, by decide⟩, _, _, rfl, rfl, .inl ⟨by omega, by omega⟩, _, _, rfl, rfl, k⟩
theorem fdiv_pos {a b : Int} (hb : 0 < b) : a.fdiv b = a / b := Int.fdiv_eq_ediv_of_nonneg _ (by omega)
theorem sqnn (x : Int) : 0 ≤ x * x := by
  rcases Int.le_total 0 x with h | h
  · exact Int.mul_nonneg h h
  · exact Int.mul_nonneg_of_nonpos_of_nonpos h h
theorem root_step {n g : Int} (hn : 2 ≤ n) (h1 : 1 ≤ g) : 1 ≤ (g + n.fdiv g).fdiv 2 := by
  rw [fdiv_pos (by omega : 0 < g), fdiv_pos (by decide : (0 : Int) < 2)]
  by_cases e : g = 1
  · subst e
    rw [Int.ediv_one]
    omega
  · have := Int.ediv_nonneg (show 0 ≤ n by omega) (show 0 ≤ g by omega)
    omega
theorem ok_root_of (T : Tx K mg) : Dn P w K mg base 1 (He.ga K "root_of") ["number"] sp_root_of := by
  refine dn_of T.F_root_of sc_root_of (fun _ _ _ _ _ _ us hl => match us, hl with | [_], _ => rfl) (fun vs H Q E h => ?_) (fun cdv A outer s H vs Q E hr h => ?_)
  · obtain ⟨_, rfl, _⟩ := h
    rfl
  · obtain ⟨n, rfl, h0, h1, k⟩ := h
    refine ⟨_, (pss_cons (ps_if (pt_cmpR op_lt (pv 0) pe_int (nomark _)) (pss_one (ps_ret (pv 0))) pss_nil) (pss_cons (ps_set (i := 1) sc_root_of.nd rfl (.inl rfl) (pe_op op_shl pe_int (pe_op op_fdivN (pe_op op_add (pe_bits (pv 0)) pe_int) pe_int))) (pss_one (ps_while PassesOwn.never (pt_val pe_bl) (pss_cons (ps_set (i := 2) sc_root_of.nd rfl (.inl rfl) (pe_op op_fdivN (pe_op op_add (pv 1) (pe_op op_fdivN (pv 0) (pv 1))) pe_int)) (pss_cons (ps_if (pt_cmpR op_ge (pv 2) (pv 1) (nomark _)) (pss_one (ps_ret (pv 1))) pss_nil) (pss_one (ps_set (i := 1) sc_root_of.nd rfl (.inl rfl) (pv 2))))))))), ?_⟩
    refine ⟨_, rfl, _, _, rfl, rfl, _, rfl, ifd (fun hn => ⟨_, rfl, k n h0 (by omega)⟩) fun hn => ?_⟩
    have hb : Builtin.Int.intBits n ≤ 30 := PyProof.Rows.intBits_le (by omega)
    have hj : ((Builtin.Int.intBits n : Nat) + 1 : Int).fdiv 2 ≤ 15 ∧ 0 ≤ ((Builtin.Int.intBits n : Nat) + 1 : Int).fdiv 2 := by
      rw [fdiv_pos (by decide)]
      omega
    refine ⟨_, rfl, n, rfl, _, _, rfl, rfl, _, _, rfl, rfl, ⟨by decide, by decide⟩, _, _, rfl, rfl, ⟨hj.2, by omega, by decide⟩, ?_⟩
    have hp : (2 : Nat) ^ ((((Builtin.Int.intBits n : Nat) + 1 : Int).fdiv 2).toNat) ≤ 2 ^ 15 := Nat.pow_le_pow_right (by decide) (by omega)
    have hp1 : 1 ≤ (2 : Nat) ^ ((((Builtin.Int.intBits n : Nat) + 1 : Int).fdiv 2).toNat) := Nat.one_le_two_pow
    have hg : ((1 : Int) * 2 ^ ((((Builtin.Int.intBits n : Nat) + 1 : Int).fdiv 2).toNat)) = (((2 : Nat) ^ ((((Builtin.Int.intBits n : Nat) + 1 : Int).fdiv 2).toNat) : Nat) : Int) := by
      rw [Int.one_mul, Int.natCast_pow]
      rfl
    refine while_by (fun σ H' => H' = H ∧ ∃ (g : Int) (b : Option V), σ = [some (.int n), some (.int g), b] ∧ 1 ≤ g ∧ g ≤ 2 ^ 16) (fun σ _ => match σ with | [_, some (.int g), _] => g.toNat | _ => 0) ⟨rfl, _, _, rfl, ?_, ?_⟩ ?_ ?_
    · rw [hg]; omega
    · rw [hg]; omega
    · rintro σ H' ⟨rfl, g, b, rfl, g1, g2⟩
      refine ⟨_, rfl, iteT ?_⟩
      have hs := root_step (show 2 ≤ n by omega) g1
      refine ⟨_, rfl, _, rfl, _, rfl, _, _, rfl, rfl, ⟨by omega, by omega⟩, _, _, rfl, rfl, _, _, rfl, rfl, ⟨by decide, by decide⟩, ?_⟩
      refine ⟨_, rfl, _, rfl, _, _, rfl, rfl, _, rfl, ifd (fun hb => ⟨_, rfl, k g (by omega) g2⟩) fun hb => ?_⟩
      refine ⟨_, rfl, ⟨rfl, _, _, rfl, hs, by omega⟩, ?_⟩
      show ((g + n.fdiv g).fdiv 2).toNat < g.toNat
      omega
    · rintro σ H' Q1 Q2 f ⟨k, e, q⟩
      exact ⟨k, e, f _ _ q⟩
theorem ok_Drum_turn_of (T : Tx K mg) : Dn P w K mg base 3 (He.ma K (He.ga K "Drum") "turn_of") ["self", "cell"] (sp_Drum_turn_of K) := by
  refine dn_of T.F_Drum_turn_of sc_Drum_turn_of (fun _ _ _ _ _ _ us hl => match us, hl with | [_, _], _ => rfl) (fun vs H Q E h => ?_) (fun cdv A outer s H vs Q E hr h => ?_)
  · obtain ⟨_, _, _, _, rfl, _⟩ := h
    rfl
  · obtain ⟨p, f, s, c, rfl, D, R, h0, h1, k⟩ := h
    obtain ⟨dx, hp⟩ := id D
    obtain ⟨f1, f2, s1, s2⟩ := id R
    have lk : (fsD f s).lookup ("begins" : Str) = none := by rw [look1 (by decide +kernel), look1 (by decide +kernel)]; rfl
    refine ⟨_, (pss_cons (ps_if (pt_cmpR op_eq (pe_fld (pv 0) rfl) pe_int (nomark _)) (pss_one (ps_ret (pe_op op_fdivN (pv 1) (pe_fld (pv 0) rfl)))) pss_nil) (pss_cons (ps_set (i := 2) sc_Drum_turn_of.nd rfl (.inl rfl) (pe_op op_sub (pe_op op_mul pe_int (pe_fld (pv 0) rfl)) (pe_fld (pv 0) rfl))) (pss_cons (ps_set (i := 3) sc_Drum_turn_of.nd rfl (.inl rfl) (pe_callB (cr_max2I rfl hr.units) (by rfl) T.n_max (by decide +kernel) (pa_cons pe_int (pa_cons (pe_op op_fdivN (pe_op op_sub (pc (ok_root_of T) hr rfl T.g_root_of (pa_cons (pe_op op_add (pe_op op_mul (pv 2) (pv 2)) (pe_op op_mul (pe_op op_mul pe_int (pe_fld (pv 0) rfl)) (pv 1))) pa_nil)) (pv 2)) (pe_op op_mul pe_int (pe_fld (pv 0) rfl))) pa_nil)))) (pss_cons (ps_while PassesOwn.never (pt_cmpR op_gt (pm (pv 0) T.c_Drum T.t_Drum_begins (ok_Drum_begins T) hr (pa_cons (pv 3) pa_nil)) (pv 1) (nomark _)) (pss_one (ps_set (i := 3) sc_Drum_turn_of.nd rfl (.inl rfl) (pe_op op_sub (pv 3) pe_int)))) (pss_cons (ps_while PassesOwn.never (pt_cmpR op_le (pm (pv 0) T.c_Drum T.t_Drum_begins (ok_Drum_begins T) hr (pa_cons (pe_op op_add (pv 3) pe_int) pa_nil)) (pv 1) (nomark _)) (pss_one (ps_set (i := 3) sc_Drum_turn_of.nd rfl (.inl rfl) (pe_op op_add (pv 3) pe_int)))) (pss_one (ps_ret (pv 3)))))))), ?_⟩
    refine ⟨_, rfl, p, _, dx, _, _, rfl, hp, T.c_Drum, T.a_Drum_more, lkM, rfl, _, rfl, ifd (fun e => ?_) fun e => ?_⟩
    · have e : s = 0 := by injection e
      subst e
      refine ⟨_, rfl, _, rfl, p, _, dx, _, _, rfl, hp, T.c_Drum, T.a_Drum_least, lkL, _, _, rfl, rfl, ⟨by omega, by omega⟩, k _ ?_⟩
      rw [fdiv_pos (by omega : 0 < f)]
      have d := Int.mul_ediv_add_emod c f
      have m0 := Int.emod_nonneg c (show f ≠ 0 by omega)
      have m1 := Int.emod_lt_of_pos c (show 0 < f by omega)
      refine ⟨Int.ediv_nonneg h0 (by omega), ?_, ?_⟩
      · unfold bgn
        rw [Int.zero_mul, Int.mul_comm]
        omega
      · rw [bgn1]
        unfold bgn
        rw [Int.zero_mul, Int.mul_zero, Int.mul_comm]
        omega
    · have e : s ≠ 0 := fun z => e (by rw [z])
      have hn : 0 ≤ (2 * f - s) * (2 * f - s) + 8 * s * c ∧ (2 * f - s) * (2 * f - s) + 8 * s * c < 2 ^ 30 := by
        have a1 : 0 ≤ (2 * f - s) * (2 * f - s) := sqnn _
        have a2 : (2 * f - s).natAbs ≤ 80 := by omega
        have a3 : ((2 * f - s) * (2 * f - s)).natAbs ≤ 80 * 80 := by rw [Int.natAbs_mul]; exact Nat.mul_le_mul a2 a2
        have a4 : 0 ≤ 8 * s * c := Int.mul_nonneg (by omega) h0
        have a5 : 8 * s * c ≤ 320 * 100 := Int.mul_le_mul (by omega) (by omega) h0 (by decide)
        omega
      refine ⟨_, rfl, p, _, dx, _, _, rfl, hp, T.c_Drum, T.a_Drum_least, lkL, _, _, rfl, rfl, .inl ⟨by decide, by decide⟩, _, rfl, p, _, dx, _, _, rfl, hp, T.c_Drum, T.a_Drum_more, lkM, _, _, rfl, rfl, ?_⟩
      refine ⟨_, rfl, _, rfl, _, _, rfl, rfl, .inl ⟨by omega, by omega⟩, _, rfl, p, _, dx, _, _, rfl, hp, T.c_Drum, T.a_Drum_more, lkM, _, _, rfl, rfl, .inl ⟨by decide, by decide⟩, _, rfl, _, _, rfl, rfl, .inl ⟨by omega, by omega⟩, _, _, rfl, rfl, ?_⟩
      refine ⟨_, rfl, hn.1, hn.2, fun r r0 r1 => ⟨_, rfl, _, _, rfl, rfl, _, rfl, p, _, dx, _, _, rfl, hp, T.c_Drum, T.a_Drum_more, lkM, _, _, rfl, rfl, .inl ⟨by decide, by decide⟩, _, _, rfl, rfl, ⟨by omega, by omega⟩, ?_⟩⟩
      generalize ht : (r - (2 * f - s)).fdiv (2 * s) = t0
      have t0b : t0 ≤ 2 ^ 20 := by
        rw [← ht, fdiv_pos (by omega)]
        have := Int.ediv_le_self (a := 2 ^ 17) (2 * s) (by decide)
        have := Int.ediv_le_ediv (c := 2 * s) (by omega) (show r - (2 * f - s) ≤ 2 ^ 17 by omega)
        omega
      refine ⟨_, _, rfl, ?_⟩
      have hlin : ∀ t : Int, 0 ≤ t → t ≤ bgn f s t := fun t h => by
        have h2 := bgn_ge f1 s1 t.toNat
        rw [show ((t.toNat : Nat) : Int) = t from Int.toNat_of_nonneg h] at h2
        exact h2
      refine while_by (fun σ H' => H' = H ∧ ∃ t : Int, σ = [some (.ref p), some (.int c), some (.int (2 * f - s)), some (.int t)] ∧ 0 ≤ t ∧ t ≤ 2 ^ 20) (fun σ _ => match σ with | [_, _, _, some (.int t)] => t.toNat | _ => 0) ⟨rfl, _, rfl, by omega, by omega⟩ ?_ ?_
      · rintro σ H' ⟨rfl, t, rfl, g1, g2⟩
        refine ⟨_, rfl, p, dx, _, rfl, hp, lk, _, rfl, p, f, s, t, rfl, D, R, g1, by omega, _, rfl, _, _, rfl, rfl, _, rfl, ifd (fun hb => ?_) fun hb => ?_⟩
        · have t1 : 1 ≤ t := by
            rcases Int.lt_or_le 0 t with h | h
            · exact h
            · have : t = 0 := by omega
              subst this
              rw [bgn0] at hb
              omega
          refine ⟨_, rfl, _, _, rfl, rfl, ⟨rfl, _, rfl, by omega, by omega⟩, ?_⟩
          show (t - 1).toNat < t.toNat
          omega
        · refine while_by (fun σ H'' => H'' = H' ∧ ∃ t : Int, σ = [some (.ref p), some (.int c), some (.int (2 * f - s)), some (.int t)] ∧ 0 ≤ t ∧ t ≤ 2 ^ 20 ∧ bgn f s t ≤ c) (fun σ _ => match σ with | [_, _, _, some (.int t)] => (101 - t).toNat | _ => 0) ⟨rfl, _, rfl, g1, g2, by omega⟩ ?_ ?_
          · rintro σ H'' ⟨rfl, t, rfl, g1, g2, g3⟩
            have := hlin t g1
            refine ⟨_, rfl, p, dx, _, rfl, hp, lk, _, rfl, _, _, rfl, rfl, p, f, s, t + 1, rfl, D, R, by omega, by omega, _, rfl, _, _, rfl, rfl, _, rfl, ifd (fun hb => ?_) fun hb => ?_⟩
            · refine ⟨_, rfl, _, _, rfl, rfl, ⟨rfl, _, rfl, by omega, by omega, hb⟩, ?_⟩
              show (101 - (t + 1)).toNat < (101 - t).toNat
              omega
            · exact ⟨_, rfl, k t ⟨g1, g3, by omega⟩⟩
          · rintro σ H1 Q1 Q2 F ⟨v1, e1, a, d1, fs, e2, e3, e4, v2, e5, x1, x2, e6, e7, p1, f', s', t', e8, D', R', g1, g2, v3, e9, q⟩
            obtain ⟨i1, i2, i3, i4, k1, k2, k3⟩ := q
            exact ⟨v1, e1, a, d1, fs, e2, e3, e4, v2, e5, x1, x2, e6, e7, p1, f', s', t', e8, D', R', g1, g2, v3, e9, i1, i2, i3, i4, k1, k2, F _ _ k3⟩
      · rintro σ H1 Q1 Q2 F ⟨v1, e1, a, d1, fs, e2, e3, e4, v2, e5, p1, f', s', t', e8, D', R', g1, g2, v3, e9, q⟩
        obtain ⟨i1, i2, i3, i4, k1, k2, k3⟩ := q
        exact ⟨v1, e1, a, d1, fs, e2, e3, e4, v2, e5, p1, f', s', t', e8, D', R', g1, g2, v3, e9, i1, i2, i3, i4, k1, k2, F _ _ k3⟩
theorem ok_Drum_where (T : Tx K mg) : Dn P w K mg base 4 (He.ma K (He.ga K "Drum") "where") ["self", "cell"] (sp_Drum_where K) := by
  refine dn_of T.F_Drum_where sc_Drum_where (fun _ _ _ _ _ _ us hl => match us, hl with | [_, _], _ => rfl) (fun vs H Q E h => ?_) (fun cdv A outer s H vs Q E hr h => ?_)
  · obtain ⟨_, _, _, _, rfl, _⟩ := h
    rfl
  · obtain ⟨p, f, s, c, rfl, D, R, h0, h1, k⟩ := h
    obtain ⟨dx, hp⟩ := id D
    refine ⟨_, (pss_cons (ps_if (PW.pt (pw_or (pt_not (pt_val (pc (ok_is_whole T) hr rfl T.g_is_whole (pa_cons (pv 1) pa_nil)))) (pw_or1 (pt_cmpR op_lt (pv 1) pe_int (nomark _))))) (pss_one ps_never) pss_nil) (pss_cons (ps_set (i := 2) sc_Drum_where.nd rfl (.inl rfl) (pm (pv 0) T.c_Drum T.t_Drum_turn_of (ok_Drum_turn_of T) hr (pa_cons (pv 1) pa_nil))) (pss_one (ps_ret (pe_tup (pa_cons (pv 2) (pa_cons (pe_op op_sub (pv 1) (pm (pv 0) T.c_Drum T.t_Drum_begins (ok_Drum_begins T) hr (pa_cons (pv 2) pa_nil))) (pa_cons (pm (pv 0) T.c_Drum T.t_Drum_size (ok_Drum_size T) hr (pa_cons (pv 2) pa_nil)) pa_nil)))))))), ?_⟩
    refine ⟨_, rfl, _, rfl, true, rfl, iteF ⟨_, rfl, _, _, rfl, rfl, _, rfl, ifF (decide_eq_false (by omega)) ?_⟩⟩
    have lk : ∀ m : Str, ¬ m = "least" → ¬ m = "more" → (fsD f s).lookup m = none := fun m h1 h2 => by rw [look1 h1, look1 h2]; rfl
    refine ⟨_, rfl, p, dx, _, rfl, hp, lk _ (by decide +kernel) (by decide +kernel), _, rfl, p, f, s, c, rfl, D, R, h0, h1, fun t ht => ?_⟩
    have hl := turn_le R.f1 R.s1 ht
    refine ⟨_, rfl, _, rfl, _, rfl, p, dx, _, rfl, hp, lk _ (by decide +kernel) (by decide +kernel), _, rfl, p, f, s, t, rfl, D, R, ht.nn, by omega, _, _, rfl, rfl,
      _, rfl, p, dx, _, rfl, hp, lk _ (by decide +kernel) (by decide +kernel), _, rfl, p, f, s, t, rfl, D, ht.nn, by omega, by show 3 ≤ sizeLine; decide, fun a ha => k t a ht ha⟩
end
end Wm
end
section
set_option Elab.async false
set_option linter.all false
set_option maxRecDepth 100000
set_option maxHeartbeats 4000000
/-! What is kept from heap to heap; faces, shops; loops in comprehensions. -/
namespace Wm
open PySem PySem.Spec PyProof.Rows L2 WmM
set_option autoImplicit false
theorem _root_.L2.Same.over {H0 H : Hp} {p : Addr} {o : HO} (s : L2.Same H0 H) (h : H0 p = none) : L2.Same H0 (upd H p o) := fun b u e => by
  rw [upd_ne (ne_of_none e h)]
  exact s b u e
theorem _root_.L2.Same.new {H : Hp} {p : Addr} {o : HO} (h : H p = none) : L2.Same H (upd H p o) := (Same.refl H).over h
theorem kept {H : Hp} {b p : Addr} {u o : HO} (e : H b = some u) (h : H p = none) : upd H p o b = some u := by
  rw [upd_ne (ne_of_none e h)]
  exact e
/-- tuples are kept -/
def TK (H H' : Hp) : Prop := ∀ a xs, H a = some (.tup xs) → H' a = some (.tup xs)
theorem TK.refl (H : Hp) : TK H H := fun _ _ e => e
theorem TK.trans {H H1 H2 : Hp} (a : TK H H1) (b : TK H1 H2) : TK H H2 := fun x xs e => b x xs (a x xs e)
theorem TK.same {H H' : Hp} (s : Same H H') : TK H H' := fun a xs e => s a _ e
theorem TK.new {H : Hp} {p : Addr} {o : HO} (h : H p = none) : TK H (upd H p o) := TK.same (Same.new h)
theorem TK.lst {H : Hp} {l : Addr} {xs : List V} {o : HO} (h : H l = some (.lst xs)) : TK H (upd H l o) := fun a ys e => by
  rw [upd_ne (ne_of e h fun z => nomatch z)]
  exact e
theorem TK.dT {H : Hp} {l : Addr} {xs : List (List Key × V)} {o : HO} (h : H l = some (.dT xs)) : TK H (upd H l o) := fun a ys e => by
  rw [upd_ne (ne_of e h fun z => nomatch z)]
  exact e
theorem TK.ins {H : Hp} {l C dx : Addr} {fs : List (Str × V)} {o : HO} (h : H l = some (.ins C dx fs)) : TK H (upd H l o) := fun a ys e => by
  rw [upd_ne (ne_of e h fun z => nomatch z)]
  exact e
theorem TK.frz {H : Hp} {l : Addr} {ob : Obj} {u o : HO} (h : H l = some (.frz ob u)) : TK H (upd H l o) := fun a ys e => by
  rw [upd_ne (ne_of e h fun z => nomatch z)]
  exact e
/-- all that is no dict with tuple keys is kept -/
def noT : HO → Bool
  | .dT _ => false
  | .frz _ (.dT _) => false
  | _ => true
def Kn (H H' : Hp) : Prop := ∀ b o, H b = some o → noT o = true → H' b = some o
theorem Kn.refl (H : Hp) : Kn H H := fun _ _ e _ => e
theorem Kn.trans {H H1 H2 : Hp} (a : Kn H H1) (b : Kn H1 H2) : Kn H H2 := fun x o e h => b x o (a x o e h) h
theorem Kn.same {H H' : Hp} (s : Same H H') : Kn H H' := fun a o e _ => s a _ e
theorem Kn.tk {H H' : Hp} (k : Kn H H') : TK H H' := fun a xs e => k a _ e rfl
theorem Kn.new {H : Hp} {p : Addr} {o : HO} (h : H p = none) : Kn H (upd H p o) := Kn.same (Same.new h)
theorem Kn.dT {H : Hp} {l : Addr} {xs : List (List Key × V)} {o : HO} (h : H l = some (.dT xs)) : Kn H (upd H l o) := fun a u e n => by
  rw [upd_ne (ne_of e h fun z => by rw [z] at n; exact nomatch n)]
  exact e
theorem Kn.frz {H : Hp} {l : Addr} {ob : Obj} {xs : List (List Key × V)} {o : HO} (h : H l = some (.frz ob (.dT xs))) : Kn H (upd H l o) := fun a u e n => by
  rw [upd_ne (ne_of e h fun z => by rw [z] at n; exact nomatch n)]
  exact e

/-! ### faces -/
abbrev Fc : Type := List Key
def fDr (d c : Int) : Fc := [.inr "drum", .inl d, .inl c, .inr "out"]
def fSt (s c : Int) (side : Str) : Fc := [.inr "strip", .inl s, .inl c, .inr side]
def TupF (H : Hp) (a : Addr) (f : Fc) : Prop := H a = some (.tup (f.map kV))
def TupsAt (H : Hp) (as : List Addr) (fs : List Fc) : Prop := Paired (TupF H) as fs
theorem paired_imp {α β : Type} {R S : α → β → Prop} (h : ∀ a b, R a b → S a b) : ∀ {xs : List α} {ys : List β}, Paired R xs ys → Paired S xs ys
  | _, _, .nil => .nil
  | _, _, .cons r t => .cons (h _ _ r) (paired_imp h t)
theorem paired_app {α β : Type} {R : α → β → Prop} : ∀ {xs : List α} {ys : List β} {zs : List α} {ws : List β}, Paired R xs ys → Paired R zs ws → Paired R (xs ++ zs) (ys ++ ws)
  | _, _, _, _, .nil, h => h
  | _, _, _, _, .cons r t, h => .cons r (paired_app t h)
theorem paired_get {α β : Type} {R : α → β → Prop} : ∀ {xs : List α} {ys : List β} {j : Nat} {a : α}, Paired R xs ys → xs[j]? = some a → ∃ b, ys[j]? = some b ∧ R a b
  | _, _, 0, _, .cons r t, h => by cases h; exact ⟨_, rfl, r⟩
  | _, _, j + 1, _, .cons r t, h => by
    obtain ⟨b, h1, h2⟩ := paired_get (j := j) t (by simpa using h)
    exact ⟨b, by simpa using h1, h2⟩
  | _, _, _, _, .nil, h => by simp at h
theorem TupsAt.tk {H H' : Hp} (k : TK H H') {as : List Addr} {fs : List Fc} (h : TupsAt H as fs) : TupsAt H' as fs := paired_imp (fun a f e => k a _ e) h
theorem TupsAt.snoc {H : Hp} {as : List Addr} {fs : List Fc} {a : Addr} {f : Fc} (h : TupsAt H as fs) (e : TupF H a f) : TupsAt H (as ++ [a]) (fs ++ [f]) := paired_app h (.cons e .nil)
/-- a list of faces -/
def FacesL (H : Hp) (l : Addr) (fs : List Fc) : Prop := ∃ as, H l = some (.lst (as.map V.ref)) ∧ TupsAt H as fs

/-! ### shops -/
structure Shp where
  ds : List (Int × Int)
  ls : List Int
structure ShpOk (S : Shp) : Prop where
  d1 : 1 ≤ S.ds.length
  d2 : S.ds.length ≤ 3
  dr : ∀ d ∈ S.ds, DrumR d.1 d.2
  l1 : 1 ≤ S.ls.length
  l2 : S.ls.length ≤ 6
  lr : ∀ l ∈ S.ls, 1 ≤ l ∧ l ≤ 40
def dF (ds : List (Int × Int)) (i : Nat) : List Fc := (List.range (ds.getD i (0, 0)).1.toNat).map fun (c : Nat) => fDr i c
def sF (ls : List Int) (i : Nat) : List Fc := (List.range (ls.getD i 0).toNat).flatMap fun (c : Nat) => [fSt i c "back", fSt i c "front"]
def facesOf (S : Shp) : List Fc := (List.range S.ds.length).flatMap (dF S.ds) ++ (List.range S.ls.length).flatMap (sF S.ls)
/-- the shop at p, its list of lengths at ll -/
def ShopL (K : PySem.W.Frag) (H : Hp) (p ll : Addr) (S : Shp) : Prop := ∃ (dx ld : Addr) (as : List Addr), H p = some (.ins (He.ga K "Shop") dx [("rollers", .ref ld), ("lengths", .ref ll)]) ∧ H ld = some (.lst (as.map V.ref)) ∧
  Paired (fun a (d : Int × Int) => DrumAt K H a d.1 d.2) as S.ds ∧ H ll = some (.lst (S.ls.map V.int))
def ShopAt (K : PySem.W.Frag) (H : Hp) (p : Addr) (S : Shp) : Prop := ∃ ll, ShopL K H p ll S
theorem ShopL.kn {K : PySem.W.Frag} {H H' : Hp} {p ll : Addr} {S : Shp} (k : Kn H H') (h : ShopL K H p ll S) : ShopL K H' p ll S := by
  obtain ⟨dx, ld, as, h1, h2, h3, h4⟩ := h
  exact ⟨dx, ld, as, k _ _ h1 rfl, k _ _ h2 rfl, paired_imp (fun a d ⟨dx, e⟩ => ⟨dx, k _ _ e rfl⟩) h3, k _ _ h4 rfl⟩
theorem ShopAt.kn {K : PySem.W.Frag} {H H' : Hp} {p : Addr} {S : Shp} (k : Kn H H') (h : ShopAt K H p S) : ShopAt K H' p S := let ⟨ll, h⟩ := h; ⟨ll, h.kn k⟩

/-! ### rules with K said (within comprehensions) -/
section
variable {X : Cx} {K : PySem.W.Frag} {e : Expr} {f : Str} {pos : Pos} {ta : TE}
theorem pe_fldK (K : PySem.W.Frag) (he : PE X e ta) (hb : attributeBase e f X.env (eval e X.env) = eval e X.env) (hK : X.K = K := by rfl) : PE X (.Attribute e f pos) (tFld K ta f) := by
  subst hK
  exact pe_fld he hb
theorem ix_listK (K : PySem.W.Frag) (hK : X.K = K := by rfl) : IxR X (rIxL K) := by
  subst hK
  exact ix_list
theorem ix_tupK (K : PySem.W.Frag) (hK : X.K = K := by rfl) : IxR X (rIxT K) := by
  subst hK
  exact ix_tup
end

/-! ### the inner for of a comprehension -/
theorem lc_in {J : It} {n : Nat} {G : Hp → Prop} {Y : Nat → Hp → V → Hp → Prop} (w : Walk J n G Y) {g : TG} {tt : TT} {te : TE} {vs : List Nat} {σ : L2.St} {H4 : Hp} {D : Addr} {Nx : Hp → Prop} (Pv : Nat → Hp → Prop) (h0 : Pv 0 H4) (hG : ∀ i H, i ≤ n → Pv i H → G H)
    (hs : ∀ i x H H', i < n → Pv i H → Y i H x H' → g x (wipe σ vs) H' fun σ2 H2 => wipe σ2 vs = wipe σ vs ∧ tt σ2 H2 fun b H3 =>
      if b = true then te σ2 H3 fun y H4 => ∃ acc, H4 D = some (.lst acc) ∧ acc.length < sizeLine ∧ Pv (i + 1) (upd H4 D (.lst (acc ++ [y]))) else Pv (i + 1) H3) (hd : ∀ H, Pv n H → Nx H) :
    ∃ W1 : Nat → Nat → Hp → Prop, (∃ m, W1 0 m H4) ∧ ∀ j k H, W1 j k H →
      (J.stop j H ∧ Nx H) ∨ (J.go j H ∧ ∃ Nx1 : Hp → Prop, (∀ H', Nx1 H' → ∃ k', k' < k ∧ W1 (j + 1) k' H') ∧ ∀ x H', J.yld j H x H' → g x (wipe σ vs) H' fun σ3 H5 => wipe σ3 vs = wipe σ vs ∧ tt σ3 H5 fun b H6 =>
        if b = true then te σ3 H6 fun y H7 => ∃ acc, H7 D = some (.lst acc) ∧ acc.length < sizeLine ∧ Nx1 (upd H7 D (.lst (acc ++ [y]))) else Nx1 H6) := by
  refine ⟨fun i m H => m = n - i ∧ i ≤ n ∧ Pv i H, ⟨n, by simp, Nat.zero_le _, h0⟩, ?_⟩
  rintro i m H ⟨rfl, hi, p⟩
  have q := hG i H hi p
  by_cases hlt : i < n
  · refine .inr ⟨w.goes i H hlt q, Pv (i + 1), fun H' p' => ⟨n - (i + 1), by omega, rfl, hlt, p'⟩, fun x H' y => hs i x H H' hlt p (w.yields i H x H' hlt q y)⟩
  · have e : i = n := by omega
    subst e
    exact .inl ⟨w.stops H q, hd H p⟩
/-- the outer for of two -/
theorem lc_out {J : It} {n : Nat} {G : Hp → Prop} {Y : Nat → Hp → V → Hp → Prop} (w : Walk J n G Y) {g : TG} {tt : TT} {wi1 : TI} {g1 : TG} {tt1 : TT} {te : TE} {vs vs1 : List Nat} {σ : L2.St} {H1 : Hp} {D : Addr} {Qd : Hp → Prop} (Pv : Nat → Hp → Prop) (h0 : Pv 0 (upd H1 D (.lst []))) (hG : ∀ i H, i ≤ n → Pv i H → G H)
    (hs : ∀ i x H H', i < n → Pv i H → Y i H x H' → g x (wipe σ vs) H' fun σ2 H2 => wipe σ2 vs = wipe σ vs ∧ tt σ2 H2 fun b H3 =>
      if b = true then wi1 σ2 H3 fun J1 H4 => ∃ W1 : Nat → Nat → Hp → Prop, (∃ m, W1 0 m H4) ∧ ∀ j k H, W1 j k H →
        (J1.stop j H ∧ Pv (i + 1) H) ∨ (J1.go j H ∧ ∃ Nx1 : Hp → Prop, (∀ H', Nx1 H' → ∃ k', k' < k ∧ W1 (j + 1) k' H') ∧ ∀ x H', J1.yld j H x H' → g1 x (wipe σ2 vs1) H' fun σ3 H5 => wipe σ3 vs1 = wipe σ2 vs1 ∧ tt1 σ3 H5 fun b H6 =>
          if b = true then te σ3 H6 fun y H7 => ∃ acc, H7 D = some (.lst acc) ∧ acc.length < sizeLine ∧ Nx1 (upd H7 D (.lst (acc ++ [y]))) else Nx1 H6)
      else Pv (i + 1) H3) (hd : ∀ H, Pv n H → Qd H) :
    ∃ W : Nat → Nat → Hp → Prop, (∃ m, W 0 m (upd H1 D (.lst []))) ∧ ∀ i m H, W i m H →
      (J.stop i H ∧ Qd H) ∨ (J.go i H ∧ ∃ Nx : Hp → Prop, (∀ H', Nx H' → ∃ m', m' < m ∧ W (i + 1) m' H') ∧ ∀ x H', J.yld i H x H' → g x (wipe σ vs) H' fun σ2 H2 => wipe σ2 vs = wipe σ vs ∧ tt σ2 H2 fun b H3 =>
        if b = true then wi1 σ2 H3 fun J1 H4 => ∃ W1 : Nat → Nat → Hp → Prop, (∃ m, W1 0 m H4) ∧ ∀ j k H, W1 j k H →
          (J1.stop j H ∧ Nx H) ∨ (J1.go j H ∧ ∃ Nx1 : Hp → Prop, (∀ H', Nx1 H' → ∃ k', k' < k ∧ W1 (j + 1) k' H') ∧ ∀ x H', J1.yld j H x H' → g1 x (wipe σ2 vs1) H' fun σ3 H5 => wipe σ3 vs1 = wipe σ2 vs1 ∧ tt1 σ3 H5 fun b H6 =>
            if b = true then te σ3 H6 fun y H7 => ∃ acc, H7 D = some (.lst acc) ∧ acc.length < sizeLine ∧ Nx1 (upd H7 D (.lst (acc ++ [y]))) else Nx1 H6)
        else Nx H3) := by
  refine ⟨fun i m H => m = n - i ∧ i ≤ n ∧ Pv i H, ⟨n, by simp, Nat.zero_le _, h0⟩, ?_⟩
  rintro i m H ⟨rfl, hi, p⟩
  have q := hG i H hi p
  by_cases hlt : i < n
  · exact .inr ⟨w.goes i H hlt q, Pv (i + 1), fun H' p' => ⟨n - (i + 1), by omega, rfl, hlt, p'⟩, fun x H' y => hs i x H H' hlt p (w.yields i H x H' hlt q y)⟩
  · have e : i = n := by omega
    subst e
    exact .inl ⟨w.stops H q, hd H p⟩
section
variable {K : PySem.W.Frag} {a : Addr} {α : Type} {f : α → V} {zs : List α}
theorem map_at {β : Type} {f : α → β} {i : Nat} {x : β} (e : (zs.map f)[i]? = some x) : ∃ z, zs[i]? = some z ∧ x = f z := by
  rw [List.getElem?_map] at e
  cases e2 : zs[i]? with
  | none => rw [e2] at e; cases e
  | some z => rw [e2] at e; exact ⟨z, rfl, (Option.some.inj e).symm⟩
theorem walk_enumF : Walk (Ite K a) zs.length (fun H => SqL K H a (zs.map f)) (fun i H v H' => ∃ T z, zs[i]? = some z ∧ v = .ref T ∧ H T = none ∧ H' = upd H T (.tup [.int (i : Nat), f z])) := by
  have w := walk_enum (K := K) (a := a) (xs := zs.map f)
  rw [List.length_map] at w
  refine w.mono (fun H h => h) fun i H x H' hi _ y => ?_
  obtain ⟨T, x1, x2, h1, h2, h3, h4, h5⟩ := y
  obtain ⟨z, e1, e2⟩ := map_at h5
  have e4 := Option.some.inj h4
  subst e2
  subst e4
  exact ⟨T, z, e1, h1, h2, h3⟩
theorem walk_listF : Walk (Itl K a) zs.length (fun H => SqL K H a (zs.map f)) (fun i H x H' => H' = H ∧ ∃ z, zs[i]? = some z ∧ x = f z) := by
  have w := walk_list (K := K) (a := a) (xs := zs.map f)
  rw [List.length_map] at w
  refine w.mono (fun H h => h) fun i H x H' hi _ y => ⟨y.1, map_at y.2⟩
end
end Wm
end
section
set_option Elab.async false
set_option linter.all false
set_option maxRecDepth 100000
set_option maxHeartbeats 4000000
/-! Shops, walked. -/
namespace Wm
open PySem PySem.Spec PyProof.Rows L2 WmM
set_option autoImplicit false
def sp_is_from : Sp := fun vs H Q _ => ∃ n lo hi : Int, vs = [.int n, .int lo, .int hi] ∧ lo ≤ n ∧ n ≤ hi ∧ Q (.bl true) H
def sp_want_many (K : PySem.W.Frag) : Sp := fun vs H Q _ => ∃ (p : Addr) (xs : List V) (x : V) (m : Int), vs = [x, .ref p, .int m] ∧ H p = some (.lst xs) ∧ 1 ≤ xs.length ∧ (xs.length : Int) ≤ m ∧ Q .non H
def sp_Shop_init (K : PySem.W.Frag) : Sp := fun vs H Q _ => ∃ (p dx la lb : Addr) (as : List Addr) (S : Shp), vs = [.ref p, .ref la, .ref lb] ∧ H p = some (.ins (He.ga K "Shop") dx []) ∧ H la = some (.lst (as.map V.ref)) ∧ Paired (fun a (d : Int × Int) => DrumAt K H a d.1 d.2) as S.ds ∧
  H lb = some (.lst (S.ls.map V.int)) ∧ ShpOk S ∧ ∀ (H' : Hp) (ll : Addr), (∀ b o, b ≠ p → H b = some o → H' b = some o) → H ll = none → ShopL K H' p ll S → Q .non H'
def sp_Shop_faces (K : PySem.W.Frag) : Sp := fun vs H Q _ => ∃ (p : Addr) (S : Shp), vs = [.ref p] ∧ ShopAt K H p S ∧ ShpOk S ∧ ∀ (H' : Hp) (l : Addr), Same H H' → H l = none → FacesL H' l (facesOf S) → Q (.ref l) H'
section
variable {P : Program} {w : World} {K : PySem.W.Frag} {mg : Str → Option Value} {base : Heap}
theorem ok_is_from (T : Tx K mg) : Dn P w K mg base 2 (He.ga K "is_from") ["thing", "low", "high"] sp_is_from := by
  refine dn_of T.F_is_from sc_is_from (fun _ _ _ _ _ _ us hl => match us, hl with | [_, _, _], _ => rfl) (fun vs H Q E h => ?_) (fun cdv A outer s H vs Q E hr h => ?_)
  · obtain ⟨_, _, _, rfl, _⟩ := h
    rfl
  · obtain ⟨n, lo, hi, rfl, h1, h2, k⟩ := h
    refine ⟨_, (pss_one (ps_ret (pe_and (pc (ok_is_whole T) hr rfl T.g_is_whole (pa_cons (pv 0) pa_nil)) (pe_one (pe_chain op_le op_le (pv 1) (pv 0) (pv 2)))))), ?_⟩
    refine ⟨_, rfl, n, rfl, true, rfl, iteT ⟨_, rfl, _, rfl, _, _, rfl, rfl, _, rfl, ifT (decide_eq_true h1) ⟨_, rfl, _, _, rfl, rfl, ?_⟩⟩⟩
    show Q (.bl (decide (n ≤ hi))) H
    rw [decide_eq_true h2]
    exact k
theorem ok_want_many (T : Tx K mg) : Dn P w K mg base 1 (He.ga K "want_many") ["part", "things", "most"] (sp_want_many K) := by
  refine dn_of T.F_want_many sc_want_many (fun _ _ _ _ _ _ us hl => match us, hl with | [_, _, _], _ => rfl) (fun vs H Q E h => ?_) (fun cdv A outer s H vs Q E hr h => ?_)
  · obtain ⟨_, _, _, _, rfl, _⟩ := h
    rfl
  · obtain ⟨p, xs, x, m, rfl, hp, h1, h2, k⟩ := h
    refine ⟨_, (pss_one (ps_if (PW.pt (pw_or (pt_not (pt_val (pe_callB call_isi (by rfl) T.n_isinstance (by decide +kernel) (pa_cons (pv 1) (pa_cons (pe_bltn (v := .ty "list") rfl T.n_list (by decide +kernel) rfl) pa_nil))))) (pw_or1 (pt_not (pt_chain op_le op_le pe_int (pe_callB call_len_seq (by rfl) T.n_len PySem.boot_len (pa_cons (pv 1) pa_nil)) (pv 2)))))) (pss_one ps_never) pss_nil)), ?_⟩
    refine ⟨_, rfl, _, _, _, _, _, rfl, .ty "list", .base (.lst hp), kit_ty (r := true) (by decide +kernel), true, rfl, iteF ?_⟩
    refine ⟨_, rfl, p, _, rfl, .inl (SqL.of hp), _, _, rfl, rfl, _, rfl, ifT (decide_eq_true (by omega)) ⟨_, rfl, _, _, rfl, rfl, _, rfl, ?_⟩⟩
    rw [decide_eq_true h2]
    exact iteF k
theorem nRL : ¬ ("lengths" : Str) = "rollers" := by decide +kernel
theorem nFst {m : Str} {f s : Int} (h1 : ¬ m = "least") (h2 : ¬ m = "more") : (fsD f s).lookup m = none := by rw [look1 h1, look1 h2]; rfl
theorem ok_Shop_init (T : Tx K mg) : Dn P w K mg base 3 (He.ma K (He.ga K "Shop") "__init__") ["self", "drums", "strips"] (sp_Shop_init K) := by
  refine dn_of T.F_Shop_init sc_Shop_init (fun _ _ _ _ _ _ us hl => match us, hl with | [_, _, _], _ => rfl) (fun vs H Q E h => ?_) (fun cdv A outer s H vs Q E hr h => ?_)
  · obtain ⟨_, _, _, _, _, _, rfl, _⟩ := h
    rfl
  · obtain ⟨p, dx, la, lb, as, S, rfl, hp, ha, hd, hb, O, k⟩ := h
    refine ⟨_, (pss_cons (ps_expr (pc (ok_want_many T) hr rfl T.g_want_many (pa_cons pe_str (pa_cons (pv 1) (pa_cons (pe_gi rfl T.i_MOST_DRUMS) pa_nil))))) (pss_cons (ps_for PassesOwn.never rfl (pi_enum (by rfl) T.n_enumerate (pa_cons (pv 1) pa_nil)) (pg_tup (by rfl) (pgs_cons (pg_name (i := 3) sc_Shop_init.nd rfl (.inl rfl)) (pgs_cons (pg_name (i := 4) sc_Shop_init.nd rfl (.inl rfl)) pgs_nil))) (pss_one (ps_if (PW.pt (pw_or (pt_not (pt_val (pe_callB call_isi (by rfl) T.n_isinstance (by decide +kernel) (pa_cons (pv 4) (pa_cons (pe_glob (v := .ref (He.ga K "Drum")) (by rfl) T.g_Drum (by rfl)) pa_nil))))) (pw_or1 (pt_cmpR op_gt (pm0 (pv 4) T.c_Drum T.t_Drum_first (ok_Drum_first T) hr) (pe_gi rfl T.i_MOST_CELLS) (nomark _))))) (pss_one ps_never) pss_nil))) (pss_cons (ps_expr (pc (ok_want_many T) hr rfl T.g_want_many (pa_cons pe_str (pa_cons (pv 2) (pa_cons (pe_gi rfl T.i_MOST_STRIPS) pa_nil))))) (pss_cons (ps_for PassesOwn.never rfl (pi_enum (by rfl) T.n_enumerate (pa_cons (pv 2) pa_nil)) (pg_tup (by rfl) (pgs_cons (pg_name (i := 3) sc_Shop_init.nd rfl (.inl rfl)) (pgs_cons (pg_name (i := 5) sc_Shop_init.nd rfl (.inl rfl)) pgs_nil))) (pss_one (ps_if (pt_not (pt_val (pc (ok_is_from T) hr rfl T.g_is_from (pa_cons (pv 5) (pa_cons pe_int (pa_cons (pe_gi rfl T.i_MOST_CELLS) pa_nil)))))) (pss_one ps_never) pss_nil))) (pss_cons (ps_fld (pv 0) (pe_callTy call_list_of (by rfl) T.n_list (by decide +kernel) (pa_cons (pv 1) pa_nil)) rfl) (pss_one (ps_fld (pv 0) (pe_callTy call_list_of (by rfl) T.n_list (by decide +kernel) (pa_cons (pv 2) pa_nil)) rfl))))))), ?_⟩
    have la' : (as.map V.ref).length = S.ds.length := by rw [List.length_map]; exact Paired.length hd
    have lb' : (S.ls.map V.int).length = S.ls.length := by rw [List.length_map]
    have := O.d1; have := O.d2; have := O.l1; have := O.l2
    refine ⟨_, rfl, la, _, _, 3, rfl, ha, by omega, by omega, ?_⟩
    refine ⟨_, rfl, la, _, rfl, SqL.of ha, for_it walk_enumF (fun i σ H' => (∃ x y z, σ = [some (.ref p), some (.ref la), some (.ref lb), x, y, z]) ∧ Same H H') ⟨⟨_, _, _, rfl⟩, Same.refl _⟩ (fun i σ H' _ q => SqL.of (q.2 _ _ ha)) ?_ ?_⟩
    · rintro i x σ H1 H2 hi ⟨⟨x1, x2, x3, rfl⟩, s1⟩ ⟨t, a', e2, rfl, ht, rfl⟩
      · obtain ⟨d, e3, dr⟩ := paired_get hd e2
        obtain ⟨dx', h1⟩ := id dr
        have s2 : Same H (upd H1 t (.tup [.int (i : Nat), .ref a'])) := s1.over (s1.free ht)
        refine ⟨t, _, rfl, SqT.of upd_same, rfl, _, _, rfl, _, _, rfl, rfl, ?_⟩
        have R := O.dr d (List.mem_of_getElem? e3)
        have := R.f2
        refine ⟨_, rfl, _, _, _, _, _, rfl, .own _, T.drum _ _ _ _ (s2 _ _ h1), T.isDrum, true, rfl, iteF ?_⟩
        refine ⟨_, rfl, _, dx', _, rfl, s2 _ _ h1, nFst (by decide +kernel) (by decide +kernel), _, d.1, d.2, rfl, ⟨dx', s2 _ _ h1⟩, _, _, rfl, rfl, _, rfl, ifF (decide_eq_false (by omega)) ?_⟩
        exact ⟨⟨_, _, _, rfl⟩, s2⟩
    · rintro σ H1 ⟨⟨x1, x2, x3, rfl⟩, s1⟩
      refine ⟨_, rfl, lb, _, _, 6, rfl, s1 _ _ hb, by omega, by omega, ?_⟩
      refine ⟨_, rfl, lb, _, rfl, SqL.of (s1 _ _ hb), for_it walk_enumF (fun i σ H' => (∃ x y z, σ = [some (.ref p), some (.ref la), some (.ref lb), x, y, z]) ∧ Same H H') ⟨⟨_, _, _, rfl⟩, s1⟩ (fun i σ H' _ q => SqL.of (q.2 _ _ hb)) ?_ ?_⟩
      · rintro i x σ H1 H2 hi ⟨⟨x1, x2, x3, rfl⟩, s1⟩ ⟨t, a', e2, rfl, ht, rfl⟩
        · obtain ⟨n, rfl⟩ : ∃ n : Int, n = a' := ⟨_, rfl⟩
          have s2 : Same H (upd H1 t (.tup [.int (i : Nat), .int n])) := s1.over (s1.free ht)
          have R := O.lr n (List.mem_of_getElem? e2)
          refine ⟨t, _, rfl, SqT.of upd_same, rfl, _, _, rfl, _, _, rfl, rfl, ?_⟩
          refine ⟨_, rfl, n, 1, 40, rfl, R.1, R.2, true, rfl, iteF ?_⟩
          exact ⟨⟨_, _, _, rfl⟩, s2⟩
      · rintro σ H2 ⟨⟨x1, x2, x3, rfl⟩, s2⟩
        refine ⟨_, rfl, la, _, rfl, .inl (SqL.of (s2 _ _ ha)), fun l hl => ?_⟩
        have npl : p ≠ l := ne_of_none (s2 _ _ hp) hl
        refine ⟨_, rfl, p, _, dx, [], rfl, kept (s2 _ _ hp) hl, T.c_Shop, T.a_Shop_rollers, (by show 0 < 1000; decide), ?_⟩
        have nbp : lb ≠ p := ne_of hb hp fun z => nomatch z
        have hb3 : upd (upd H2 l (.lst (as.map V.ref))) p (.ins (He.ga K "Shop") dx (putF "rollers" (.ref l) [])) lb = some (.lst (S.ls.map V.int)) := by
          rw [upd_ne nbp]
          exact kept (s2 _ _ hb) hl
        refine ⟨_, rfl, lb, _, rfl, .inl (SqL.of hb3), fun m hm => ?_⟩
        have nmp : m ≠ p := fun z => by
          rw [z, upd_same] at hm
          cases hm
        have nml : m ≠ l := fun z => by
          rw [z, upd_ne npl.symm, upd_same] at hm
          cases hm
        have hm2 : H2 m = none := by
          rw [upd_ne nmp, upd_ne nml] at hm
          exact hm
        refine ⟨_, rfl, p, _, dx, _, rfl, (by rw [upd_ne nmp.symm, upd_same]), T.c_Shop, T.a_Shop_lengths, (by rw [putF0]; show 1 < 1000; decide), ?_⟩
        rw [putF0, putF1 (Ne.symm nRL), putF0]
        have keep : ∀ b o, b ≠ p → H b = some o → upd (upd (upd (upd H2 l (.lst (as.map V.ref))) p (.ins (He.ga K "Shop") dx [("rollers", .ref l)])) m (.lst (S.ls.map V.int))) p (.ins (He.ga K "Shop") dx [("rollers", .ref l), ("lengths", .ref m)]) b = some o := fun b o n e => by
          rw [upd_ne n, upd_ne (ne_of_none (s2 _ _ e) hm2), upd_ne n, upd_ne (ne_of_none (s2 _ _ e) hl)]
          exact s2 _ _ e
        refine k _ m keep (s2.free hm2) ⟨dx, l, as, upd_same, ?_, ?_, by rw [upd_ne nmp, upd_same]⟩
        · rw [upd_ne npl.symm, upd_ne nml.symm, upd_ne npl.symm, upd_same]
        · refine paired_imp (fun a d ⟨dy, e⟩ => ⟨dy, keep _ _ (fun z => ?_) e⟩) hd
          rw [z, hp] at e
          have e := Option.some.inj e
          injection e with e1 e2 e3
          cases e3
theorem rng {n : Int} (h : 0 ≤ n) : ((n - 0).toNat : Int) = n := by omega
theorem dF_len (ds : List (Int × Int)) (i : Nat) : (dF ds i).length = (ds.getD i (0, 0)).1.toNat := by simp [dF]
theorem lkR {ld ll : Addr} : List.lookup ("rollers" : Str) ([("rollers", V.ref ld), ("lengths", V.ref ll)] : List (Str × V)) = some (.ref ld) := look0
theorem lkLn {ld ll : Addr} : List.lookup ("lengths" : Str) ([("rollers", V.ref ld), ("lengths", V.ref ll)] : List (Str × V)) = some (.ref ll) := by rw [look1 nRL, look0]
theorem ok_Shop_faces (T : Tx K mg) : Dn P w K mg base 2 (He.ma K (He.ga K "Shop") "faces") ["self"] (sp_Shop_faces K) := by
  refine dn_of T.F_Shop_faces sc_Shop_faces (fun _ _ _ _ _ _ us hl => match us, hl with | [_], _ => rfl) (fun vs H Q E h => ?_) (fun cdv A outer s H vs Q E hr h => ?_)
  · obtain ⟨_, _, rfl, _⟩ := h
    rfl
  · obtain ⟨p, S, rfl, ⟨ll, dx, ld, as, hp, hd, pd, hl⟩, O, k⟩ := h
    refine ⟨_, (pss_cons (ps_set (i := 1) sc_Shop_faces.nd rfl (.inl rfl) (pe_lst pa_nil)) (pss_cons (ps_for PassesOwn.never rfl (pi_enum (by rfl) T.n_enumerate (pa_cons (pe_fld (pv 0) rfl) pa_nil)) (pg_tup (by rfl) (pgs_cons (pg_name (i := 2) sc_Shop_faces.nd rfl (.inr rfl)) (pgs_cons (pg_name (i := 3) sc_Shop_faces.nd rfl (.inl rfl)) pgs_nil))) (pss_one (ps_expr (pe_bm PySem.F.plainAttrs_list PySem.F.slot_list_extend PySem.F.type_list_extend mt_extend (pv 1) (pa_cons (pe_lc (own := [("cell", 4)]) (g := (gName 4)) rfl sc_Shop_faces.nd (pi_range1 (by rfl) T.n_range (pa_cons (pm0 (pv 3) T.c_Drum T.t_Drum_first (ok_Drum_first T) hr) pa_nil)) (blkOk_by (own := [("cell", 4)]) (N := ["self", "found", "number", "drum", "cell", "many", "side"]) (sc := (defScope s_Shop_faces)) (by decide +kernel)) (fun _ _ _ _ _ => (pg_name (i := 4) sc_Shop_faces.nd rfl (.inl rfl))) (fun _ _ _ _ _ => pts_nil) (fun _ _ _ _ _ => (pe_tup (pa_cons pe_str (pa_cons (pv 2) (pa_cons (pv 4) (pa_cons pe_str pa_nil))))))) pa_nil))))) (pss_cons (ps_for PassesOwn.never rfl (pi_enum (by rfl) T.n_enumerate (pa_cons (pe_fld (pv 0) rfl) pa_nil)) (pg_tup (by rfl) (pgs_cons (pg_name (i := 2) sc_Shop_faces.nd rfl (.inr rfl)) (pgs_cons (pg_name (i := 5) sc_Shop_faces.nd rfl (.inl rfl)) pgs_nil))) (pss_one (ps_expr (pe_bm PySem.F.plainAttrs_list PySem.F.slot_list_extend PySem.F.type_list_extend mt_extend (pv 1) (pa_cons (pe_lc2 (own := [("cell", 4), ("side", 6)]) (vs1 := [6]) (wi1 := iTup K _) rfl sc_Shop_faces.nd (pi_range1 (by rfl) T.n_range (pa_cons (pv 5) pa_nil)) (blkOk_by (own := [("cell", 4), ("side", 6)]) (N := ["self", "found", "number", "drum", "cell", "many", "side"]) (sc := (defScope s_Shop_faces)) (by decide +kernel)) (by decide) (fun _ _ _ _ _ => (pg_name (i := 4) sc_Shop_faces.nd rfl (.inl rfl))) (fun _ _ _ _ _ => pts_nil) (fun _ _ _ _ _ => (pi_tup (pe_glob (v := .ref (He.ga K "SIDES")) (by rfl) T.g_SIDES (by rfl)))) (fun _ _ _ _ _ => (pg_name (i := 6) sc_Shop_faces.nd rfl (.inl rfl))) (fun _ _ _ _ _ => pts_nil) (fun _ _ _ _ _ => (pe_tup (pa_cons pe_str (pa_cons (pv 2) (pa_cons (pv 4) (pa_cons (pv 6) pa_nil))))))) pa_nil))))) (pss_one (ps_ret (pv 1)))))), ?_⟩
    have la' : (as.map V.ref).length = S.ds.length := by rw [List.length_map]; exact Paired.length pd
    have lb' : (S.ls.map V.int).length = S.ls.length := by rw [List.length_map]
    have := O.d1; have := O.d2; have := O.l1; have := O.l2
    refine ⟨Nat.zero_le _, fun l hl0 => ?_⟩
    refine ⟨_, rfl, p, _, dx, _, _, rfl, kept hp hl0, T.c_Shop, T.a_Shop_rollers, lkR, ld, _, rfl, SqL.of (kept hd hl0), ?_⟩
    refine for_it walk_enumF (fun i σ H' => (∃ x1 x2 x3 x4 x5, σ = [some (.ref p), some (.ref l), x1, x2, x3, x4, x5]) ∧ Same H H' ∧ ∃ bs, H' l = some (.lst (bs.map V.ref)) ∧ TupsAt H' bs ((List.range i).flatMap (dF S.ds)) ∧ bs.length ≤ 40 * i)
      ⟨⟨_, _, _, _, _, rfl⟩, Same.new hl0, [], upd_same, .nil, Nat.le_refl _⟩ (fun i σ H' _ q => SqL.of (q.2.1 _ _ hd)) ?_ ?_
    · rintro i x σ H1 H2 hi ⟨⟨x1, x2, x3, x4, x5, rfl⟩, s1, bs, hbs, tb, lenb⟩ ⟨t, a', e2, rfl, ht, rfl⟩
      obtain ⟨d, e3, dr⟩ := paired_get pd e2
      obtain ⟨dx', h1⟩ := id dr
      have R := O.dr d (List.mem_of_getElem? e3)
      have := R.f2; have := R.f1
      have s2 : Same H (upd H1 t (.tup [.int (i : Nat), .ref a'])) := s1.over (s1.free ht)
      have hbs2 : upd H1 t (.tup [.int (i : Nat), .ref a']) l = some (.lst (bs.map V.ref)) := kept hbs ht
      have tb2 := tb.tk (TK.new (o := .tup [.int (i : Nat), .ref a']) ht)
      refine ⟨t, _, rfl, SqT.of upd_same, rfl, _, _, rfl, _, _, rfl, rfl, ?_⟩
      generalize upd H1 t (.tup [.int (i : Nat), .ref a']) = H2 at s2 hbs2 tb2 ⊢
      refine ⟨_, rfl, .inl ⟨rfl, _, SqL.of hbs2⟩, ?_⟩
      refine ⟨_, rfl, _, dx', _, rfl, s2 _ _ h1, nFst (by decide +kernel) (by decide +kernel), _, d.1, d.2, rfl, ⟨dx', s2 _ _ h1⟩, d.1, rfl, by omega, by omega, fun D hD => ?_⟩
      refine lc_it walk_range (fun j H' => Same H2 H' ∧ ∃ cs, H' D = some (.lst (cs.map V.ref)) ∧ TupsAt H' cs ((List.range j).map fun (c : Nat) => fDr i c) ∧ cs.length = j) ⟨Same.new hD, [], upd_same, .nil, rfl⟩ (fun _ _ _ _ => trivial) ?_ ?_
      · rintro j y H3 H4 hj ⟨s3, cs, hcs, tc, lc⟩ ⟨rfl, rfl⟩
        refine ⟨rfl, _, rfl, _, rfl, by show 4 ≤ sizeLine; decide, fun q hq => ⟨_, kept hcs hq, by rw [List.length_map, lc]; exact small1000 (by omega), ?_⟩⟩
        have hDq : upd H4 q (.tup [.str "drum", .int (i : Nat), .int (0 + (j : Nat)), .str "out"]) D = some (.lst (cs.map V.ref)) := kept hcs hq
        refine ⟨(s3.over (s3.free hq)).over hD, cs ++ [q], by rw [upd_same, List.map_append]; rfl, ?_, by rw [List.length_append, lc]; rfl⟩
        rw [List.range_succ, List.map_append]
        refine ((tc.tk (TK.new hq)).tk (TK.lst hDq)).snoc ?_
        show upd (upd H4 q _) D _ q = _
        rw [upd_ne (ne_of_none hcs hq).symm, upd_same, Int.zero_add]
        rfl
      · rintro H3 ⟨s3, cs, hcs, tc, lc⟩
        have lnd : l ≠ D := ne_of_none hbs2 hD
        have hn : d.1.toNat = (S.ds.getD i (0, 0)).1.toNat := by rw [List.getD_eq_getElem?_getD, e3]; rfl
        rw [hn] at tc lc
        have hl3 := s3 _ _ hbs2
        have l40 : cs.length ≤ 40 := by
          rw [lc, ← hn]
          omega
        have ix : i < 3 := by rw [List.length_map] at la'; omega
        refine ⟨l, D, _, _, rfl, rfl, hl3, hcs, by rw [List.length_map, List.length_map]; exact Nat.le_of_lt (small1000 (by omega)), ?_⟩
        have tcat := ((tb2.tk (TK.same s3)).tk (TK.lst (o := .lst (bs.map V.ref ++ cs.map V.ref)) hl3))
        refine ⟨⟨_, _, _, _, _, rfl⟩, fun b o e => ?_, bs ++ cs, by rw [upd_same, List.map_append], ?_, by rw [List.length_append]; omega⟩
        · rw [upd_ne (ne_of_none e hl0)]
          exact s3 _ _ (s2 _ _ e)
        · rw [List.range_succ, List.flatMap_append, List.flatMap_singleton]
          exact paired_app tcat (tc.tk (TK.lst hl3))
    · rintro σ H1 ⟨⟨x1, x2, x3, x4, x5, rfl⟩, s1, bs, hbs, tb, lenb⟩
      refine ⟨_, rfl, p, _, dx, _, _, rfl, s1 _ _ hp, T.c_Shop, T.a_Shop_lengths, lkLn, ll, _, rfl, SqL.of (s1 _ _ hl), ?_⟩
      have lenb0 : bs.length ≤ 120 := by rw [List.length_map] at la'; omega
      refine for_it walk_enumF (fun i σ H' => (∃ x1 x2 x3 x4 x5, σ = [some (.ref p), some (.ref l), x1, x2, x3, x4, x5]) ∧ Same H H' ∧ ∃ bs, H' l = some (.lst (bs.map V.ref)) ∧ TupsAt H' bs ((List.range S.ds.length).flatMap (dF S.ds) ++ (List.range i).flatMap (sF S.ls)) ∧ bs.length ≤ 120 + 80 * i)
        ⟨⟨_, _, _, _, _, rfl⟩, s1, bs, hbs, ?_, lenb0⟩ (fun i σ H' _ q => SqL.of (q.2.1 _ _ hl)) ?_ ?_
      · have e : as.length = S.ds.length := by rw [List.length_map] at la'; exact la'
        rw [e] at tb
        simpa using tb
      · rintro i x σ H1 H2 hi ⟨⟨x1, x2, x3, x4, x5, rfl⟩, s1, bs, hbs, tb, lenb⟩ ⟨t, n, e2, rfl, ht, rfl⟩
        have R := O.lr n (List.mem_of_getElem? e2)
        have s2 : Same H (upd H1 t (.tup [.int (i : Nat), .int n])) := s1.over (s1.free ht)
        have hbs2 : upd H1 t (.tup [.int (i : Nat), .int n]) l = some (.lst (bs.map V.ref)) := kept hbs ht
        have tb2 := tb.tk (TK.new (o := .tup [.int (i : Nat), .int n]) ht)
        refine ⟨t, _, rfl, SqT.of upd_same, rfl, _, _, rfl, _, _, rfl, rfl, ?_⟩
        generalize upd H1 t (.tup [.int (i : Nat), .int n]) = H2 at s2 hbs2 tb2 ⊢
        refine ⟨_, rfl, .inl ⟨rfl, _, SqL.of hbs2⟩, ?_⟩
        refine ⟨_, rfl, n, rfl, by omega, by omega, fun D hD => ?_⟩
        refine lc_out walk_range (fun j H' => Same H2 H' ∧ ∃ cs, H' D = some (.lst (cs.map V.ref)) ∧ TupsAt H' cs ((List.range j).flatMap fun (c : Nat) => [fSt i c "back", fSt i c "front"]) ∧ cs.length = 2 * j) ⟨Same.new hD, [], upd_same, .nil, rfl⟩ (fun _ _ _ _ => trivial) ?_ ?_
        · rintro j y H3 H4 hj ⟨s3, cs, hcs, tc, lc⟩ ⟨rfl, rfl⟩
          refine ⟨rfl, _, rfl, ⟨_, T.sides _⟩, ?_⟩
          refine lc_in walk_tup (fun m H' => Same H2 H' ∧ ∃ cs, H' D = some (.lst (cs.map V.ref)) ∧ TupsAt H' cs ((List.range j).flatMap (fun (c : Nat) => [fSt i c "back", fSt i c "front"]) ++ ([fSt i j "back", fSt i j "front"] : List Fc).take m) ∧ cs.length = 2 * j + m) ⟨s3, cs, hcs, by simpa using tc, lc⟩ (fun _ H' _ _ => T.sides H') ?_ ?_
          · rintro m y H5 H6 hm ⟨s5, es, hes, te, le⟩ ⟨rfl, em⟩
            have hjj : j < 40 := by omega
            have sd : ∃ sd : Str, y = .str sd ∧ ([fSt i j "back", fSt i j "front"] : List Fc).take (m + 1) = ([fSt i j "back", fSt i j "front"] : List Fc).take m ++ [fSt i j sd] := by
              match m, hm, em with
              | 0, _, em => exact ⟨"back", (Option.some.inj em).symm, rfl⟩
              | 1, _, em => exact ⟨"front", (Option.some.inj em).symm, rfl⟩
            obtain ⟨sd, rfl, tk⟩ := sd
            refine ⟨rfl, _, rfl, _, rfl, _, rfl, by show 4 ≤ sizeLine; decide, fun q hq => ⟨_, kept hes hq, by rw [List.length_map, le]; exact small1000 (by simp at hm; omega), ?_⟩⟩
            have hDq : upd H6 q (.tup [.str "strip", .int (i : Nat), .int (0 + (j : Nat)), .str sd]) D = some (.lst (es.map V.ref)) := kept hes hq
            refine ⟨(s5.over (s5.free hq)).over hD, es ++ [q], by rw [upd_same, List.map_append]; rfl, ?_, by rw [List.length_append, le]; rfl⟩
            rw [tk, ← List.append_assoc]
            refine ((te.tk (TK.new hq)).tk (TK.lst hDq)).snoc ?_
            show upd (upd H6 q _) D _ q = _
            rw [upd_ne (ne_of_none hes hq).symm, upd_same, Int.zero_add]
            rfl
          · rintro H5 ⟨s5, es, hes, te, le⟩
            refine ⟨s5, es, hes, ?_, le⟩
            rw [List.range_succ, List.flatMap_append, List.flatMap_singleton]
            exact te
        · rintro H3 ⟨s3, cs, hcs, tc, lc⟩
          have lnd : l ≠ D := ne_of_none hbs2 hD
          have hn : n.toNat = (S.ls.getD i 0).toNat := by rw [List.getD_eq_getElem?_getD, e2]; rfl
          rw [hn] at tc lc
          have hl3 := s3 _ _ hbs2
          have l40 : cs.length ≤ 80 := by
            rw [lc, ← hn]
            omega
          have ix : i < 6 := by omega
          refine ⟨l, D, _, _, rfl, rfl, hl3, hcs, by rw [List.length_map, List.length_map]; exact Nat.le_of_lt (small1000 (by omega)), ?_⟩
          have tcat := ((tb2.tk (TK.same s3)).tk (TK.lst (o := .lst (bs.map V.ref ++ cs.map V.ref)) hl3))
          refine ⟨⟨_, _, _, _, _, rfl⟩, fun b o e => ?_, bs ++ cs, by rw [upd_same, List.map_append], ?_, by rw [List.length_append]; omega⟩
          · rw [upd_ne (ne_of_none e hl0)]
            exact s3 _ _ (s2 _ _ e)
          · rw [List.range_succ, List.flatMap_append, List.flatMap_singleton, ← List.append_assoc]
            exact paired_app tcat (tc.tk (TK.lst hl3))
      · rintro σ H2 ⟨⟨x1, x2, x3, x4, x5, rfl⟩, s2, bs, hbs, tb, lenb⟩
        exact ⟨_, rfl, k H2 l s2 hl0 ⟨bs, hbs, tb⟩⟩
end
end Wm
end
section
set_option Elab.async false
set_option linter.all false
set_option maxRecDepth 100000
set_option maxHeartbeats 4000000
/-! Plies, deeds, rows, walked. -/
namespace Wm
open PySem PySem.Spec PyProof.Rows L2 WmM
set_option autoImplicit false
structure Ply where
  s : Int
  e : Str
  d : Str
def Ply.key (p : Ply) : Fc := [.inl p.s, .inr p.e, .inr p.d]
structure PlyOk (S : Shp) (p : Ply) : Prop where
  s0 : 0 ≤ p.s
  s1 : p.s < S.ls.length
  e : p.e = "head" ∨ p.e = "tail"
  d : p.d = "back" ∨ p.d = "front"
def PliesAt (H : Hp) (l : Addr) (ps : List Ply) : Prop := ∃ as, H l = some (.lst (as.map V.ref)) ∧ TupsAt H as (ps.map Ply.key)
structure PliesOk (S : Shp) (ps : List Ply) : Prop where
  l1 : 1 ≤ ps.length
  l2 : ps.length ≤ 3
  ok : ∀ p ∈ ps, PlyOk S p
  nd : (ps.map Ply.s).Nodup
theorem PliesAt.kn {H H' : Hp} {l : Addr} {ps : List Ply} (k : Kn H H') (h : PliesAt H l ps) : PliesAt H' l ps := let ⟨as, h1, h2⟩ := h; ⟨as, k _ _ h1 rfl, h2.tk k.tk⟩
inductive Deed where
  | opn (b : Int)
  | roll (d : Int) (ps : List Ply) (b : Int)
def Deed.b : Deed → Int
  | .opn b => b
  | .roll _ _ b => b
def DeedAt (H : Hp) (a : Addr) : Deed → Prop
  | .opn b => H a = some (.tup [.str "open", .int b])
  | .roll d ps b => ∃ l, H a = some (.tup [.str "roll", .int d, .ref l, .int b]) ∧ PliesAt H l ps
def DeedOk (S : Shp) : Deed → Prop
  | .opn b => 0 ≤ b
  | .roll d ps b => 0 ≤ b ∧ 0 ≤ d ∧ d < S.ds.length ∧ PliesOk S ps
theorem DeedOk.nn {S : Shp} {d : Deed} (h : DeedOk S d) : 0 ≤ d.b := by
  cases d with
  | opn b => exact h
  | roll d ps b => exact h.1
theorem DeedAt.kn {H H' : Hp} {a : Addr} {d : Deed} (k : Kn H H') (h : DeedAt H a d) : DeedAt H' a d := by
  cases d with
  | opn b => exact k _ _ h rfl
  | roll d ps b =>
    obtain ⟨l, h1, h2⟩ := h
    exact ⟨l, k _ _ h1 rfl, h2.kn k⟩
def RowAt (H : Hp) (l : Addr) (row : List Deed) : Prop := ∃ as, H l = some (.lst (as.map V.ref)) ∧ Paired (DeedAt H) as row
theorem RowAt.kn {H H' : Hp} {l : Addr} {row : List Deed} (k : Kn H H') (h : RowAt H l row) : RowAt H' l row := let ⟨as, h1, h2⟩ := h; ⟨as, k _ _ h1 rfl, paired_imp (fun _ _ h => h.kn k) h2⟩
structure RowOk (S : Shp) (row : List Deed) : Prop where
  ok : ∀ d ∈ row, DeedOk S d
  len : row.length ≤ 40
def sp_is_ply (K : PySem.W.Frag) : Sp := fun vs H Q _ => ∃ (p a : Addr) (S : Shp) (y : Ply), vs = [.ref p, .ref a] ∧ ShopAt K H p S ∧ TupF H a y.key ∧ PlyOk S y ∧ Q (.bl true) H
def sp_wrong_ply (K : PySem.W.Frag) : Sp := fun vs H Q _ => ∃ (p l : Addr) (S : Shp) (ps : List Ply), vs = [.ref p, .ref l] ∧ ShopAt K H p S ∧ PliesAt H l ps ∧ PliesOk S ps ∧ ∀ H', Same H H' → Q .non H'
def sp_is_count : Sp := fun vs H Q _ => ∃ n : Int, vs = [.int n] ∧ 0 ≤ n ∧ Q (.bl true) H
def sp_is_deed (K : PySem.W.Frag) : Sp := fun vs H Q _ => ∃ (p a : Addr) (S : Shp) (d : Deed), vs = [.ref p, .ref a] ∧ ShopAt K H p S ∧ DeedAt H a d ∧ DeedOk S d ∧ ∀ H', Same H H' → Q (.bl true) H'
def sp_want_row (K : PySem.W.Frag) : Sp := fun vs H Q _ => ∃ (p l : Addr) (S : Shp) (row : List Deed), vs = [.ref p, .ref l] ∧ ShopAt K H p S ∧ RowAt H l row ∧ RowOk S row ∧ ∀ H', Same H H' → Q .non H'
def sp_want_wet : Sp := fun vs H Q _ => ∃ n : Int, vs = [.int n] ∧ 0 ≤ n ∧ Q .non H
section
variable {P : Program} {w : World} {K : PySem.W.Frag} {mg : Str → Option Value} {base : Heap}
theorem ok_want_wet (T : Tx K mg) : Dn P w K mg base 2 (He.ga K "want_wet") ["wet"] sp_want_wet := by
  refine dn_of T.F_want_wet sc_want_wet (fun _ _ _ _ _ _ us hl => match us, hl with | [_], _ => rfl) (fun vs H Q E h => ?_) (fun cdv A outer s H vs Q E hr h => ?_)
  · obtain ⟨_, rfl, _⟩ := h
    rfl
  · obtain ⟨n, rfl, h1, k⟩ := h
    refine ⟨_, (pss_one (ps_if (PW.pt (pw_or (pt_not (pt_val (pc (ok_is_whole T) hr rfl T.g_is_whole (pa_cons (pv 0) pa_nil)))) (pw_or1 (pt_cmpR op_lt (pv 0) pe_int (nomark _))))) (pss_one ps_never) pss_nil)), ?_⟩
    exact ⟨_, rfl, _, rfl, true, rfl, iteF ⟨_, rfl, _, _, rfl, rfl, _, rfl, ifF (decide_eq_false (by omega)) k⟩⟩
theorem ok_is_count (T : Tx K mg) : Dn P w K mg base 2 (He.ga K "is_count") ["thing"] sp_is_count := by
  refine dn_of T.F_is_count sc_is_count (fun _ _ _ _ _ _ us hl => match us, hl with | [_], _ => rfl) (fun vs H Q E h => ?_) (fun cdv A outer s H vs Q E hr h => ?_)
  · obtain ⟨_, rfl, _⟩ := h
    rfl
  · obtain ⟨n, rfl, h1, k⟩ := h
    refine ⟨_, (pss_one (ps_ret (pe_and (pc (ok_is_whole T) hr rfl T.g_is_whole (pa_cons (pv 0) pa_nil)) (pe_one (pe_cmpR op_ge (pv 0) pe_int (nomark _)))))), ?_⟩
    refine ⟨_, rfl, n, rfl, true, rfl, iteT ⟨_, rfl, _, _, rfl, rfl, ?_⟩⟩
    show Q (.bl (decide (0 ≤ n))) H
    rw [decide_eq_true h1]
    exact k
theorem ok_is_ply (T : Tx K mg) : Dn P w K mg base 3 (He.ga K "is_ply") ["shop", "thing"] (sp_is_ply K) := by
  refine dn_of T.F_is_ply sc_is_ply (fun _ _ _ _ _ _ us hl => match us, hl with | [_, _], _ => rfl) (fun vs H Q E h => ?_) (fun cdv A outer s H vs Q E hr h => ?_)
  · obtain ⟨_, _, _, _, rfl, _⟩ := h
    rfl
  · obtain ⟨p, a, S, y, rfl, ⟨ll, dx, ld, as, hp, hd, pd, hl⟩, hy, O, k⟩ := h
    have hy2 : H a = some (.tup [.int y.s, .str y.e, .str y.d]) := hy
    refine ⟨_, (pss_cons (ps_if (PW.pt (pw_or (pt_not (pt_val (pe_callB call_isi (by rfl) T.n_isinstance (by decide +kernel) (pa_cons (pv 1) (pa_cons (pe_bltn (v := .ty "tuple") rfl T.n_tuple (by decide +kernel) rfl) pa_nil))))) (pw_or1 (pt_cmpR op_ne (pe_callB call_len_seq (by rfl) T.n_len PySem.boot_len (pa_cons (pv 1) pa_nil)) pe_int (nomark _))))) (pss_one (ps_ret pe_bl)) pss_nil) (pss_cons (ps_asg (pv 1) (pg_tup (by rfl) (pgs_cons (pg_name (i := 2) sc_is_ply.nd rfl (.inl rfl)) (pgs_cons (pg_name (i := 3) sc_is_ply.nd rfl (.inl rfl)) (pgs_cons (pg_name (i := 4) sc_is_ply.nd rfl (.inl rfl)) pgs_nil))))) (pss_cons (ps_if (PW.pt (pw_or (pt_not (pt_val (pe_callB call_isi (by rfl) T.n_isinstance (by decide +kernel) (pa_cons (pv 3) (pa_cons (pe_bltn (v := .ty "str") rfl T.n_str (by decide +kernel) rfl) pa_nil))))) (pw_or1 (pt_not (pt_val (pe_callB call_isi (by rfl) T.n_isinstance (by decide +kernel) (pa_cons (pv 4) (pa_cons (pe_bltn (v := .ty "str") rfl T.n_str (by decide +kernel) rfl) pa_nil)))))))) (pss_one (ps_ret pe_bl)) pss_nil) (pss_one (ps_ret (pe_and (pc (ok_is_from T) hr rfl T.g_is_from (pa_cons (pv 2) (pa_cons pe_int (pa_cons (pe_op op_sub (pe_callB call_len_seq (by rfl) T.n_len PySem.boot_len (pa_cons (pe_fld (pv 0) rfl) pa_nil)) pe_int) pa_nil)))) (pe_and (pe_cmpR op_in_seq (pv 3) (pe_glob (v := .ref (He.ga K "ENDS")) (by rfl) T.g_ENDS (by rfl)) (by rfl)) (pe_one (pe_cmpR op_in_seq (pv 4) (pe_glob (v := .ref (He.ga K "SIDES")) (by rfl) T.g_SIDES (by rfl)) (by rfl)))))))))), ?_⟩
    refine ⟨_, rfl, _, _, _, _, _, rfl, .ty "tuple", .base (.tup hy2), kit_ty (r := true) (by decide +kernel), true, rfl, iteF ⟨_, rfl, a, _, rfl, .inr (SqT.of hy2), rfl, _, rfl, iteF ?_⟩⟩
    refine ⟨_, rfl, a, _, rfl, SqT.of hy2, rfl, _, _, rfl, _, _, rfl, _, _, rfl, rfl, ?_⟩
    refine ⟨_, rfl, _, _, _, _, _, rfl, .ty "str", .base (.str _), kit_ty (r := true) (by decide +kernel), true, rfl, iteF ⟨_, rfl, _, _, _, _, _, rfl, .ty "str", .base (.str _), kit_ty (r := true) (by decide +kernel), true, rfl, iteF ?_⟩⟩
    refine ⟨_, rfl, _, rfl, p, _, dx, _, _, rfl, hp, T.c_Shop, T.a_Shop_lengths, lkLn, ll, _, rfl, .inl (SqL.of hl), _, _, rfl, rfl, y.s, 0, _, rfl, O.s0, ?_, true, rfl, iteT ?_⟩
    · have := O.s1
      rw [List.length_map]
      omega
    · have e1 : inV (.str y.e) [.str "head", .str "tail"] = true := by rcases O.e with e | e <;> rw [e] <;> rfl
      have e2 : inV (.str y.d) [.str "back", .str "front"] = true := by rcases O.d with e | e <;> rw [e] <;> rfl
      refine ⟨_, rfl, _, _, rfl, .inr (T.ends H), rfl, rfl, true, congrArg V.bl e1, iteT ⟨_, rfl, _, _, rfl, .inr (T.sides H), rfl, rfl, ?_⟩⟩
      show Q (.bl (inV (.str y.d) [.str "back", .str "front"])) H
      rw [e2]
      exact k
theorem ok_wrong_ply (T : Tx K mg) : Dn P w K mg base 4 (He.ga K "wrong_ply") ["shop", "plies"] (sp_wrong_ply K) := by
  refine dn_of T.F_wrong_ply sc_wrong_ply (fun _ _ _ _ _ _ us hl => match us, hl with | [_, _], _ => rfl) (fun vs H Q E h => ?_) (fun cdv A outer s H vs Q E hr h => ?_)
  · obtain ⟨_, _, _, _, rfl, _⟩ := h
    rfl
  · obtain ⟨p, l, S, ps, rfl, hS, ⟨as, hl, pa⟩, O, k⟩ := h
    have ll : as.length = ps.length := by have := Paired.length pa; rw [List.length_map] at this; exact this
    have := O.l1; have := O.l2
    refine ⟨_, (pss_cons (ps_if (PW.pt (pw_or (pt_not (pt_val (pe_callB call_isi (by rfl) T.n_isinstance (by decide +kernel) (pa_cons (pv 1) (pa_cons (pe_bltn (v := .ty "list") rfl T.n_list (by decide +kernel) rfl) pa_nil))))) (pw_or1 (pt_not (pt_chain op_le op_le pe_int (pe_callB call_len_seq (by rfl) T.n_len PySem.boot_len (pa_cons (pv 1) pa_nil)) (pe_gi rfl T.i_MOST_PLIES)))))) (pss_one (ps_ret (pe_un un_neg pe_int))) pss_nil) (pss_cons (ps_set (i := 2) sc_wrong_ply.nd rfl (.inl rfl) (pe_lst pa_nil)) (pss_cons (ps_for PassesOwn.never rfl (pi_enum (by rfl) T.n_enumerate (pa_cons (pv 1) pa_nil)) (pg_tup (by rfl) (pgs_cons (pg_name (i := 3) sc_wrong_ply.nd rfl (.inl rfl)) (pgs_cons (pg_name (i := 4) sc_wrong_ply.nd rfl (.inl rfl)) pgs_nil))) (pss_cons (ps_if (PW.pt (pw_or (pt_not (pt_val (pc (ok_is_ply T) hr rfl T.g_is_ply (pa_cons (pv 0) (pa_cons (pv 4) pa_nil))))) (pw_or1 (pt_cmpR op_in_seq (pe_ix ix_tup (pv 4) pe_int (fun _ _ => rfl)) (pv 2) (by rfl))))) (pss_one (ps_ret (pv 3))) pss_nil) (pss_one (ps_expr (pe_bm PySem.F.plainAttrs_list PySem.F.slot_list_append PySem.F.type_list_append mt_append (pv 2) (pa_cons (pe_ix ix_tup (pv 4) pe_int (fun _ _ => rfl)) pa_nil)))))) (pss_one (ps_ret pe_non))))), ?_⟩
    refine ⟨_, rfl, _, _, _, _, _, rfl, .ty "list", .base (.lst hl), kit_ty (r := true) (by decide +kernel), true, rfl, iteF ?_⟩
    refine ⟨_, rfl, l, _, rfl, .inl (SqL.of hl), _, _, rfl, rfl, _, rfl, ifT (decide_eq_true (by rw [List.length_map]; omega)) ⟨_, _, rfl, rfl, _, rfl, ?_⟩⟩
    rw [decide_eq_true (show ((as.map V.ref).length : Int) ≤ 3 by rw [List.length_map]; omega)]
    refine iteF ⟨Nat.zero_le _, fun q hq => ?_⟩
    refine ⟨_, rfl, l, _, rfl, SqL.of (kept hl hq), for_it walk_enumF (fun i σ H' => (∃ x1 x2, σ = [some (.ref p), some (.ref l), some (.ref q), x1, x2]) ∧ Same H H' ∧ H' q = some (.lst ((ps.take i).map fun y => V.int y.s)))
      ⟨⟨_, _, rfl⟩, Same.new hq, upd_same⟩ (fun i σ H' _ z => SqL.of (z.2.1 _ _ hl)) ?_ ?_⟩
    · rintro i x σ H1 H2 hi ⟨⟨x1, x2, rfl⟩, s1, hq1⟩ ⟨t, a', e2, rfl, ht, rfl⟩
      obtain ⟨f, e3, dr⟩ := paired_get pa e2
      obtain ⟨y, e4, rfl⟩ := map_at (f := Ply.key) (zs := ps) e3
      have s2 : Same H (upd H1 t (.tup [.int (i : Nat), .ref a'])) := s1.over (s1.free ht)
      have hq2 : upd H1 t (.tup [.int (i : Nat), .ref a']) q = some (.lst ((ps.take i).map fun y => V.int y.s)) := kept hq1 ht
      refine ⟨t, _, rfl, SqT.of upd_same, rfl, _, _, rfl, _, _, rfl, rfl, ?_⟩
      generalize upd H1 t (.tup [.int (i : Nat), .ref a']) = H2 at s2 hq2 ⊢
      have hm := List.mem_of_getElem? e4
      have hy2 : H2 a' = some (.tup [.int y.s, .str y.e, .str y.d]) := s2 _ _ dr
      refine ⟨_, rfl, _, rfl, p, a', S, y, rfl, hS.kn (Kn.same s2), s2 _ _ dr, O.ok y hm, true, rfl, iteF ?_⟩
      have hin : inV (.int y.s) ((ps.take i).map fun y => V.int y.s) = false := by
        unfold inV
        rw [List.any_map, List.any_eq_false]
        intro z hz
        have hne : ¬ z.s = y.s := fun e => by
          obtain ⟨j, hj⟩ := List.mem_iff_getElem?.mp hz
          have hji : j < i := by
            have := (List.getElem?_eq_some_iff.mp hj).1
            rw [List.length_take] at this
            omega
          rw [List.getElem?_take_of_lt hji] at hj
          have h1 : (ps.map Ply.s)[j]? = some z.s := by rw [List.getElem?_map, hj]; rfl
          have h2 : (ps.map Ply.s)[i]? = some y.s := by rw [List.getElem?_map, e4]; rfl
          have hjl := (List.getElem?_eq_some_iff.mp h1).1
          have := (List.getElem?_inj hjl O.nd (j := i)).mp (h1.trans ((congrArg some e).trans h2.symm))
          omega
        show ¬ ((z.s == y.s) = true)
        simpa using hne
      refine ⟨_, rfl, a', _, 0, _, rfl, rfl, SqT.of hy2, rfl, _, rfl, q, _, rfl, .inl (SqL.of hq2), rfl, ?_, _, rfl, ifF hin ?_⟩
      · rw [List.all_map, List.all_eq_true]
        intro z _
        rfl
      · refine ⟨_, rfl, .inl ⟨rfl, _, SqL.of hq2⟩, _, rfl, a', _, 0, _, rfl, rfl, SqT.of hy2, rfl, q, _, _, rfl, rfl, hq2, ?_, ?_⟩
        · rw [List.length_map, List.length_take]
          exact small1000 (by omega)
        · refine ⟨⟨_, _, rfl⟩, fun b o e => ?_, ?_⟩
          · rw [upd_ne (ne_of_none e hq)]
            exact s2 _ _ e
          · rw [upd_same, List.take_add_one, e4, List.map_append]
            rfl
    · rintro σ H1 ⟨⟨x1, x2, rfl⟩, s1, hq1⟩
      exact k _ s1
theorem ok_is_deed (T : Tx K mg) : Dn P w K mg base 5 (He.ga K "is_deed") ["shop", "thing"] (sp_is_deed K) := by
  refine dn_of T.F_is_deed sc_is_deed (fun _ _ _ _ _ _ us hl => match us, hl with | [_, _], _ => rfl) (fun vs H Q E h => ?_) (fun cdv A outer s H vs Q E hr h => ?_)
  · obtain ⟨_, _, _, _, rfl, _⟩ := h
    rfl
  · obtain ⟨p, a, S, d, rfl, hS, hd, O, k⟩ := h
    refine ⟨_, (pss_cons (ps_if (PW.pt (pw_or (pt_not (pt_val (pe_callB call_isi (by rfl) T.n_isinstance (by decide +kernel) (pa_cons (pv 1) (pa_cons (pe_bltn (v := .ty "tuple") rfl T.n_tuple (by decide +kernel) rfl) pa_nil))))) (pw_or (pt_cmpR op_notIn_seq (pe_callB call_len_seq (by rfl) T.n_len PySem.boot_len (pa_cons (pv 1) pa_nil)) (pe_tup (pa_cons pe_int (pa_cons pe_int pa_nil))) (by rfl)) (pw_or1 (pt_not (pt_val (pe_callB call_isi (by rfl) T.n_isinstance (by decide +kernel) (pa_cons (pe_ix ix_tup (pv 1) pe_int (fun _ _ => rfl)) (pa_cons (pe_bltn (v := .ty "str") rfl T.n_str (by decide +kernel) rfl) pa_nil))))))))) (pss_one (ps_ret pe_bl)) pss_nil) (pss_cons (ps_if (pt_not (pt_val (pc (ok_is_count T) hr rfl T.g_is_count (pa_cons (pe_ix ix_tup (pv 1) (pe_un un_neg pe_int) (fun _ _ => rfl)) pa_nil)))) (pss_one (ps_ret pe_bl)) pss_nil) (pss_cons (ps_if (pt_cmpR op_eq (pe_callB call_len_seq (by rfl) T.n_len PySem.boot_len (pa_cons (pv 1) pa_nil)) pe_int (nomark _)) (pss_one (ps_ret (pe_cmpR op_eq (pe_ix ix_tup (pv 1) pe_int (fun _ _ => rfl)) pe_str (nomark _)))) pss_nil) (pss_cons (ps_if (PW.pt (pw_or (pt_cmpR op_ne (pe_ix ix_tup (pv 1) pe_int (fun _ _ => rfl)) pe_str (nomark _)) (pw_or1 (pt_not (pt_val (pc (ok_is_from T) hr rfl T.g_is_from (pa_cons (pe_ix ix_tup (pv 1) pe_int (fun _ _ => rfl)) (pa_cons pe_int (pa_cons (pe_op op_sub (pe_callB call_len_seq (by rfl) T.n_len PySem.boot_len (pa_cons (pe_fld (pv 0) rfl) pa_nil)) pe_int) pa_nil))))))))) (pss_one (ps_ret pe_bl)) pss_nil) (pss_one (ps_ret (pe_cmpR op_isN (pc (ok_wrong_ply T) hr rfl T.g_wrong_ply (pa_cons (pv 0) (pa_cons (pe_ix ix_tup (pv 1) pe_int (fun _ _ => rfl)) pa_nil))) pe_non (nomark _)))))))), ?_⟩
    cases d with
    | opn b =>
      have ha : H a = some (.tup [.str "open", .int b]) := hd
      refine ⟨_, rfl, _, _, _, _, _, rfl, .ty "tuple", .base (.tup ha), kit_ty (r := true) (by decide +kernel), true, rfl, iteF ?_⟩
      refine ⟨_, rfl, a, _, rfl, .inr (SqT.of ha), by show 2 ≤ sizeLine; decide, fun q hq => ⟨q, _, rfl, .inr (SqT.of upd_same), rfl, rfl, false, rfl, iteF ?_⟩⟩
      have ha2 := kept (o := .tup [.int 2, .int 4]) ha hq
      have s2 : Same H (upd H q (.tup [.int 2, .int 4])) := Same.new hq
      generalize upd H q (.tup [.int 2, .int 4]) = H2 at ha2 s2 ⊢
      refine ⟨_, rfl, a, _, 0, _, rfl, rfl, SqT.of ha2, rfl, _, _, _, _, _, rfl, .ty "str", .base (.str _), kit_ty (r := true) (by decide +kernel), true, rfl, iteF ?_⟩
      refine ⟨_, rfl, 1, rfl, a, _, -1, _, rfl, rfl, SqT.of ha2, rfl, b, rfl, O, true, rfl, iteF ?_⟩
      refine ⟨_, rfl, a, _, rfl, .inr (SqT.of ha2), rfl, true, rfl, iteT ?_⟩
      exact ⟨_, rfl, a, _, 0, _, rfl, rfl, SqT.of ha2, rfl, rfl, k _ s2⟩
    | roll d ps b =>
      obtain ⟨l, ha, hp⟩ := hd
      obtain ⟨o1, o2, o3, o4⟩ := O
      refine ⟨_, rfl, _, _, _, _, _, rfl, .ty "tuple", .base (.tup ha), kit_ty (r := true) (by decide +kernel), true, rfl, iteF ?_⟩
      refine ⟨_, rfl, a, _, rfl, .inr (SqT.of ha), by show 2 ≤ sizeLine; decide, fun q hq => ⟨q, _, rfl, .inr (SqT.of upd_same), rfl, rfl, false, rfl, iteF ?_⟩⟩
      have ha2 := kept (o := .tup [.int 2, .int 4]) ha hq
      have s2 : Same H (upd H q (.tup [.int 2, .int 4])) := Same.new hq
      generalize upd H q (.tup [.int 2, .int 4]) = H2 at ha2 s2 ⊢
      obtain ⟨ll, dx, ld, as, hp1, hd, pd, hl⟩ := hS.kn (Kn.same s2)
      refine ⟨_, rfl, a, _, 0, _, rfl, rfl, SqT.of ha2, rfl, _, _, _, _, _, rfl, .ty "str", .base (.str _), kit_ty (r := true) (by decide +kernel), true, rfl, iteF ?_⟩
      refine ⟨_, rfl, 1, rfl, a, _, -1, _, rfl, rfl, SqT.of ha2, rfl, b, rfl, o1, true, rfl, iteF ?_⟩
      refine ⟨_, rfl, a, _, rfl, .inr (SqT.of ha2), rfl, false, rfl, iteF ?_⟩
      refine ⟨_, rfl, a, _, 0, _, rfl, rfl, SqT.of ha2, rfl, rfl, false, rfl, iteF ?_⟩
      refine ⟨_, rfl, a, _, 1, _, rfl, rfl, SqT.of ha2, rfl, _, rfl, p, _, dx, _, _, rfl, hp1, T.c_Shop, T.a_Shop_rollers, lkR, ld, _, rfl, .inl (SqL.of hd), _, _, rfl, rfl, d, 0, _, rfl, o2, ?_, true, rfl, iteF ?_⟩
      · have := Paired.length pd
        rw [List.length_map]
        omega
      · refine ⟨_, rfl, _, rfl, a, _, 2, _, rfl, rfl, SqT.of ha2, rfl, p, l, S, ps, rfl, ⟨ll, dx, ld, as, hp1, hd, pd, hl⟩, hp.kn (Kn.same s2), o4, fun H3 s3 => ⟨rfl, k _ (s2.trans s3)⟩⟩
theorem ok_want_row (T : Tx K mg) : Dn P w K mg base 6 (He.ga K "want_row") ["shop", "row"] (sp_want_row K) := by
  refine dn_of T.F_want_row sc_want_row (fun _ _ _ _ _ _ us hl => match us, hl with | [_, _], _ => rfl) (fun vs H Q E h => ?_) (fun cdv A outer s H vs Q E hr h => ?_)
  · obtain ⟨_, _, _, _, rfl, _⟩ := h
    rfl
  · obtain ⟨p, l, S, row, rfl, hS, ⟨as, hl, pa⟩, O, k⟩ := h
    have ll := Paired.length pa
    have := O.len
    refine ⟨_, (pss_cons (ps_if (PW.pt (pw_or (pt_not (pt_val (pe_callB call_isi (by rfl) T.n_isinstance (by decide +kernel) (pa_cons (pv 1) (pa_cons (pe_bltn (v := .ty "list") rfl T.n_list (by decide +kernel) rfl) pa_nil))))) (pw_or1 (pt_cmpR op_gt (pe_callB call_len_seq (by rfl) T.n_len PySem.boot_len (pa_cons (pv 1) pa_nil)) (pe_gi rfl T.i_MOST_DEEDS) (nomark _))))) (pss_one ps_never) pss_nil) (pss_one (ps_for PassesOwn.never rfl (pi_enum (by rfl) T.n_enumerate (pa_cons (pv 1) pa_nil)) (pg_tup (by rfl) (pgs_cons (pg_name (i := 2) sc_want_row.nd rfl (.inl rfl)) (pgs_cons (pg_name (i := 3) sc_want_row.nd rfl (.inl rfl)) pgs_nil))) (pss_one (ps_if (pt_not (pt_val (pc (ok_is_deed T) hr rfl T.g_is_deed (pa_cons (pv 0) (pa_cons (pv 3) pa_nil))))) (pss_one ps_never) pss_nil))))), ?_⟩
    refine ⟨_, rfl, _, _, _, _, _, rfl, .ty "list", .base (.lst hl), kit_ty (r := true) (by decide +kernel), true, rfl, iteF ?_⟩
    refine ⟨_, rfl, l, _, rfl, .inl (SqL.of hl), _, _, rfl, rfl, _, rfl, ifF (decide_eq_false (by rw [List.length_map]; omega)) ?_⟩
    refine ⟨_, rfl, l, _, rfl, SqL.of hl, for_it walk_enumF (fun i σ H' => (∃ x1 x2, σ = [some (.ref p), some (.ref l), x1, x2]) ∧ Same H H') ⟨⟨_, _, rfl⟩, Same.refl _⟩ (fun i σ H' _ z => SqL.of (z.2 _ _ hl)) ?_ ?_⟩
    · rintro i x σ H1 H2 hi ⟨⟨x1, x2, rfl⟩, s1⟩ ⟨t, a', e2, rfl, ht, rfl⟩
      obtain ⟨d, e3, dr⟩ := paired_get pa e2
      have s2 : Same H (upd H1 t (.tup [.int (i : Nat), .ref a'])) := s1.over (s1.free ht)
      refine ⟨t, _, rfl, SqT.of upd_same, rfl, _, _, rfl, _, _, rfl, rfl, ?_⟩
      generalize upd H1 t (.tup [.int (i : Nat), .ref a']) = H2 at s2 ⊢
      exact ⟨_, rfl, _, rfl, p, a', S, d, rfl, hS.kn (Kn.same s2), dr.kn (Kn.same s2), O.ok d (List.mem_of_getElem? e3), fun H3 s3 => ⟨true, rfl, iteF ⟨⟨_, _, rfl⟩, s2.trans s3⟩⟩⟩
    · rintro σ H1 ⟨⟨x1, x2, rfl⟩, s1⟩
      exact k _ s1
end
end Wm
end
section
set_option Elab.async false
set_option linter.all false
set_option maxRecDepth 100000
set_option maxHeartbeats 4000000
/-! Plain: the layers of a rolling, what lies under a place, the pairs. -/
namespace Wm
open PySem PySem.Spec PyProof.Rows L2 WmM
set_option autoImplicit false
/-- the turn of a cell, looked for from below -/
def turnOf (f s c : Int) : Int := (((List.range (c.toNat + 1)).find? fun (t : Nat) => decide (bgn f s (t : Int) ≤ c) && decide (c < bgn f s ((t : Int) + 1))).getD 0 : Nat)
theorem turnOf_eq {f s c t : Int} (hf : 1 ≤ f) (hs : 0 ≤ s) (h : Turn f s c t) : turnOf f s c = t := by
  have h1 := turn_le hf hs h
  have h0 := h.nn
  have et : ((t.toNat : Nat) : Int) = t := Int.toNat_of_nonneg h0
  unfold turnOf
  cases e : (List.range (c.toNat + 1)).find? fun (t : Nat) => decide (bgn f s (t : Int) ≤ c) && decide (c < bgn f s ((t : Int) + 1)) with
  | none =>
    rw [List.find?_eq_none] at e
    have := e t.toNat (List.mem_range.mpr (by omega))
    rw [et, decide_eq_true h.lo, decide_eq_true h.hi] at this
    exact absurd rfl this
  | some u =>
    have q := List.find?_some e
    simp only [Bool.and_eq_true, decide_eq_true_eq] at q
    exact turn_uniq hf hs ⟨Int.natCast_nonneg u, q.1, q.2⟩ h
def othSide (d : Str) : Str := if d = "back" then "front" else "back"
/-- the two faces of the ply's strip at a place: inner, outer -/
def faceAt (S : Shp) (pl : Int) (y : Ply) : Option (Fc × Fc) :=
  let m := S.ls.getD y.s.toNat 0
  if m ≤ pl then none else
    let c := if y.e = "head" then pl else m - 1 - pl
    some (fSt y.s c y.d, fSt y.s c (othSide y.d))
def layerAt (S : Shp) (ps : List Ply) (pl : Int) : List (Fc × Fc) := ps.filterMap (faceAt S pl)
def lens (S : Shp) (ps : List Ply) : List Int := ps.map fun y => S.ls.getD y.s.toNat 0
def mostOf (S : Shp) (ps : List Ply) : Int := (lens S ps).foldl max 0
def layersOf (S : Shp) (ps : List Ply) : List (List (Fc × Fc)) := (List.range (mostOf S ps).toNat).map fun (i : Nat) => layerAt S ps i
theorem foldl_max_le : ∀ (l : List Int) (a : Int), a ≤ l.foldl max a ∧ (∀ x ∈ l, x ≤ l.foldl max a) ∧ (l.foldl max a = a ∨ l.foldl max a ∈ l)
  | [], a => ⟨Int.le_refl _, fun _ h => (nomatch h), .inl rfl⟩
  | b :: l, a => by
    obtain ⟨h1, h2, h3⟩ := foldl_max_le l (max a b)
    show a ≤ l.foldl max (max a b) ∧ (∀ x ∈ b :: l, x ≤ l.foldl max (max a b)) ∧ (l.foldl max (max a b) = a ∨ l.foldl max (max a b) ∈ b :: l)
    refine ⟨by omega, fun x hx => ?_, ?_⟩
    · rcases List.mem_cons.mp hx with rfl | hx
      · omega
      · exact h2 x hx
    · rcases h3 with h3 | h3
      · rw [h3]
        rcases Int.le_total a b with h | h
        · rw [Int.max_eq_right h]
          exact .inr List.mem_cons_self
        · rw [Int.max_eq_left h]
          exact .inl rfl
      · exact .inr (List.mem_cons_of_mem _ h3)
theorem mostOf_eq {S : Shp} {ps : List Ply} {m : Int} (h1 : m ∈ lens S ps) (h2 : ∀ x ∈ lens S ps, x ≤ m) (h0 : 0 ≤ m) : mostOf S ps = m := by
  obtain ⟨a, b, c⟩ := foldl_max_le (lens S ps) 0
  unfold mostOf
  have := b m h1
  rcases c with c | c
  · omega
  · have := h2 _ c
    omega
/-- faces that stand in the shop -/
theorem getD_mem {α : Type} {l : List α} {i : Nat} {d : α} (h : i < l.length) : l.getD i d ∈ l := by
  rw [List.getD_eq_getElem?_getD, List.getElem?_eq_getElem h]
  exact List.getElem_mem h
theorem face_in {S : Shp} (hS : ShpOk S) {y : Ply} (hy : PlyOk S y) {pl : Int} (h0 : 0 ≤ pl) {f g : Fc} (h : faceAt S pl y = some (f, g)) : f ∈ facesOf S ∧ g ∈ facesOf S := by
  unfold faceAt at h
  simp only at h
  have s0 := hy.s0
  have s1 := hy.s1
  have hi : y.s.toNat < S.ls.length := by omega
  have hr := hS.lr _ (getD_mem (d := 0) hi)
  have es : ((y.s.toNat : Nat) : Int) = y.s := Int.toNat_of_nonneg s0
  generalize hm : S.ls.getD y.s.toNat 0 = m at h hr
  split at h
  · cases h
  · rename_i hlt
    have h := Option.some.inj h
    injection h with h1 h2
    generalize hc : (if y.e = "head" then pl else m - 1 - pl) = c at h1 h2
    have c01 : 0 ≤ c ∧ c < m := by
      rw [← hc]
      split <;> omega
    have ec : ((c.toNat : Nat) : Int) = c := Int.toNat_of_nonneg c01.1
    have key : ∀ d : Str, (d = "back" ∨ d = "front") → fSt y.s c d ∈ facesOf S := fun d hd => by
      refine List.mem_append_right _ (List.mem_flatMap.mpr ⟨y.s.toNat, List.mem_range.mpr hi, List.mem_flatMap.mpr ⟨c.toNat, List.mem_range.mpr (by rw [hm]; omega), ?_⟩⟩)
      rw [es, ec]
      rcases hd with rfl | rfl
      · exact List.mem_cons_self
      · exact List.mem_cons_of_mem _ List.mem_cons_self
    rw [← h1, ← h2]
    refine ⟨key _ hy.d, key _ ?_⟩
    unfold othSide
    split
    · exact .inr rfl
    · exact .inl rfl
theorem drum_in {S : Shp} {d : Int} {c : Int} (h0 : 0 ≤ d) (h1 : d < S.ds.length) (c0 : 0 ≤ c) (c1 : c < (S.ds.getD d.toNat (0, 0)).1) : fDr d c ∈ facesOf S := by
  refine List.mem_append_left _ (List.mem_flatMap.mpr ⟨d.toNat, List.mem_range.mpr (by omega), List.mem_map.mpr ⟨c.toNat, List.mem_range.mpr (by omega), ?_⟩⟩)
  rw [Int.toNat_of_nonneg h0, Int.toNat_of_nonneg c0]
/-- the outer face on top of a layer -/
def topF (l : List (Fc × Fc)) : Fc := ((l.getLast?).map Prod.snd).getD []
def botF (l : List (Fc × Fc)) : Fc := (l.head?.map Prod.fst).getD []
/-- what lies under place c: drum d of first f, step s -/
def underT (d f s : Int) (L : List (List (Fc × Fc))) (c t : Int) : List Fc :=
  if t = 0 then [fDr d (c - bgn f s t)] else
    let size := f + t * s
    let less := size - s
    let at_ := c - bgn f s t
    let begin_ := c - at_ - less
    let low := (at_ * less).fdiv size
    let high := ((at_ + 1) * less - 1).fdiv size
    (List.range (high + 1 - low).toNat).map fun (k : Nat) => topF (L.getD (begin_ + (low + k)).toNat [])
def underOf (d f s : Int) (L : List (List (Fc × Fc))) (c : Int) : List Fc := underT d f s L c (turnOf f s c)
def steps2 (l : List (Fc × Fc)) : List (Fc × Fc) := (l.zip l.tail).map fun p => (p.1.2, p.2.1)
def placeOf (d f s : Int) (L : List (List (Fc × Fc))) (c : Nat) : List (Fc × Fc) := steps2 (L.getD c []) ++ (underOf d f s L c).map fun u => (u, botF (L.getD c []))
def foundOf (S : Shp) (d : Int) (ps : List Ply) : List (Fc × Fc) := (List.range (layersOf S ps).length).flatMap (placeOf d (S.ds.getD d.toNat (0, 0)).1 (S.ds.getD d.toNat (0, 0)).2 (layersOf S ps))
/-- the two touch -/
def AdjOf (S : Shp) (d : Int) (ps : List Ply) (f g : Fc) : Prop := (f, g) ∈ foundOf S d ps ∨ (g, f) ∈ foundOf S d ps
/-- bounds of the places that are read by underT -/
theorem under_bd {f s c t : Int} (hf : 1 ≤ f) (hs : 0 ≤ s) (h : Turn f s c t) (ht : t ≠ 0) : 0 < f + t * s ∧ 1 ≤ f + t * s - s ∧ 0 ≤ ((c - bgn f s t) * (f + t * s - s)).fdiv (f + t * s) ∧ ((c - bgn f s t + 1) * (f + t * s - s) - 1).fdiv (f + t * s) < f + t * s - s ∧
    0 ≤ c - (c - bgn f s t) - (f + t * s - s) ∧ 0 ≤ c - bgn f s t ∧ c - bgn f s t < f + t * s ∧ f + t * s - s ≤ c := by
  have t1 : 1 ≤ t := by have := h.nn; omega
  have e : (t - 1) * s = t * s - s := by rw [Int.sub_mul, Int.one_mul]
  have p0 : 0 ≤ (t - 1) * s := Int.mul_nonneg (by omega) hs
  have b1 := bgn1 f s (t - 1)
  rw [Int.sub_add_cancel, e] at b1
  have b0 := bgn_le hf hs (Int.le_refl 0) (show (0 : Int) ≤ t - 1 by omega)
  rw [bgn0] at b0
  have hi := h.hi
  rw [bgn1] at hi
  have lo := h.lo
  have sz : 0 < f + t * s := by omega
  refine ⟨sz, by omega, ?_, ?_, by omega, by omega, by omega, by omega⟩
  · rw [fdiv_pos sz]
    exact Int.ediv_nonneg (Int.mul_nonneg (by omega) (by omega)) (by omega)
  · rw [fdiv_pos sz]
    refine Int.ediv_lt_of_lt_mul sz ?_
    have : (c - bgn f s t + 1) * (f + t * s - s) ≤ (f + t * s) * (f + t * s - s) := Int.mul_le_mul_of_nonneg_right (by omega) (by omega)
    rw [Int.mul_comm (f + t * s - s)]
    omega
theorem layers_len {S : Shp} {ps : List Ply} : (layersOf S ps).length = (mostOf S ps).toNat := by simp [layersOf]
theorem layers_at {S : Shp} {ps : List Ply} {i : Nat} (h : i < (layersOf S ps).length) : (layersOf S ps).getD i [] = layerAt S ps i := by
  rw [layers_len] at h
  rw [List.getD_eq_getElem?_getD]
  unfold layersOf
  rw [List.getElem?_map, List.getElem?_range h]
  rfl
/-- no layer is empty -/
theorem layer_ne {S : Shp} {ps : List Ply} {i : Nat} (h : i < (layersOf S ps).length) : layerAt S ps i ≠ [] := by
  rw [layers_len] at h
  obtain ⟨a, b, c⟩ := foldl_max_le (lens S ps) 0
  have hm : mostOf S ps ∈ lens S ps := by
    rcases c with c | c
    · have : mostOf S ps = 0 := c
      omega
    · exact c
  obtain ⟨y, hy, ey⟩ := List.mem_map.mp hm
  have hf : ∃ q, faceAt S i y = some q := by
    unfold faceAt
    simp only
    rw [if_neg (by omega)]
    exact ⟨_, rfl⟩
  obtain ⟨q, hq⟩ := hf
  intro e
  have : q ∈ layerAt S ps i := List.mem_filterMap.mpr ⟨y, hy, hq⟩
  rw [e] at this
  cases this
theorem layer_in {S : Shp} (hS : ShpOk S) {ps : List Ply} (hp : ∀ y ∈ ps, PlyOk S y) {i : Nat} {q : Fc × Fc} (h : q ∈ layerAt S ps i) : q.1 ∈ facesOf S ∧ q.2 ∈ facesOf S := by
  obtain ⟨y, hy, e⟩ := List.mem_filterMap.mp h
  exact face_in hS (hp y hy) (Int.natCast_nonneg i) e
theorem top_in {S : Shp} {l : List (Fc × Fc)} (h : ∀ q ∈ l, q.1 ∈ facesOf S ∧ q.2 ∈ facesOf S) (hn : l ≠ []) : topF l ∈ facesOf S ∧ botF l ∈ facesOf S := by
  constructor
  · unfold topF
    rw [List.getLast?_eq_some_getLast hn]
    exact (h _ (List.getLast_mem hn)).2
  · cases l with
    | nil => exact absurd rfl hn
    | cons a l => exact (h a List.mem_cons_self).1
theorem most_le {S : Shp} (hS : ShpOk S) {ps : List Ply} (hp : ∀ y ∈ ps, PlyOk S y) : mostOf S ps ≤ 40 := by
  obtain ⟨a, b, c⟩ := foldl_max_le (lens S ps) 0
  unfold mostOf
  rcases c with c | c
  · omega
  · obtain ⟨y, hy, ey⟩ := List.mem_map.mp c
    have := (hp y hy).s0
    have := (hp y hy).s1
    have := hS.lr _ (getD_mem (d := 0) (show y.s.toNat < S.ls.length by omega))
    rw [← ey]
    exact this.2
/-- all that touches stands in the shop -/
theorem found_in {S : Shp} (hS : ShpOk S) {d : Int} (d0 : 0 ≤ d) (d1 : d < S.ds.length) {ps : List Ply} (hp : ∀ y ∈ ps, PlyOk S y) (ht : ∀ c : Nat, ∃ t, Turn (S.ds.getD d.toNat (0, 0)).1 (S.ds.getD d.toNat (0, 0)).2 c t) {q : Fc × Fc} (h : q ∈ foundOf S d ps) : q.1 ∈ facesOf S ∧ q.2 ∈ facesOf S := by
  have R := hS.dr _ (getD_mem (d := ((0, 0) : Int × Int)) (show d.toNat < S.ds.length by omega))
  obtain ⟨c, hc, h⟩ := List.mem_flatMap.mp h
  have hc := List.mem_range.mp hc
  unfold placeOf at h
  rw [layers_at hc] at h
  have hL : ∀ i, i < (layersOf S ps).length → topF (layerAt S ps i) ∈ facesOf S ∧ botF (layerAt S ps i) ∈ facesOf S := fun i hi => top_in (fun q hq => layer_in hS hp hq) (layer_ne hi)
  rcases List.mem_append.mp h with h | h
  · unfold steps2 at h
    obtain ⟨⟨a, b⟩, h1, h2⟩ := List.mem_map.mp h
    have := List.of_mem_zip h1
    rw [← h2]
    exact ⟨(layer_in hS hp this.1).2, (layer_in hS hp (List.mem_of_mem_tail this.2)).1⟩
  · obtain ⟨u, hu, h2⟩ := List.mem_map.mp h
    rw [← h2]
    refine ⟨?_, (hL c hc).2⟩
    show u ∈ facesOf S
    obtain ⟨t, ht⟩ := ht c
    unfold underOf at hu
    rw [turnOf_eq R.f1 R.s1 ht] at hu
    unfold underT at hu
    by_cases e : t = 0
    · rw [if_pos e, List.mem_singleton] at hu
      rw [hu]
      subst e
      have := turn0 R.f1 R.s1 ht
      rw [bgn0]
      exact drum_in d0 d1 (by omega) (by omega)
    · rw [if_neg e] at hu
      simp only at hu
      obtain ⟨k, hk, e2⟩ := List.mem_map.mp hu
      have hk := List.mem_range.mp hk
      obtain ⟨b1, b2, b3, b4, b5, b6, b7, b8⟩ := under_bd R.f1 R.s1 ht e
      have hlo := ht.lo
      rw [← e2]
      have hi : ((c : Int) - (c - bgn (S.ds.getD d.toNat (0, 0)).1 (S.ds.getD d.toNat (0, 0)).2 t) - ((S.ds.getD d.toNat (0, 0)).1 + t * (S.ds.getD d.toNat (0, 0)).2 - (S.ds.getD d.toNat (0, 0)).2) + (((c - bgn (S.ds.getD d.toNat (0, 0)).1 (S.ds.getD d.toNat (0, 0)).2 t) * ((S.ds.getD d.toNat (0, 0)).1 + t * (S.ds.getD d.toNat (0, 0)).2 - (S.ds.getD d.toNat (0, 0)).2)).fdiv ((S.ds.getD d.toNat (0, 0)).1 + t * (S.ds.getD d.toNat (0, 0)).2) + (k : Nat))).toNat < (layersOf S ps).length := by omega
      rw [layers_at hi]
      exact (hL _ hi).1
end Wm
end
section
set_option Elab.async false
set_option linter.all false
set_option maxRecDepth 100000
set_option maxHeartbeats 4000000
/-! zip(xs, ys, strict=False) of two lists. -/
namespace Wm
open PySem PySem.Spec PyProof.Rows L2
open Sem (wp)
set_option autoImplicit false
section
variable {prog : Program} {w : World} {A : Around} {E : Value → Shared → Prop} {s : Shared}
abbrev kwS : List (Str × Value) := [("strict", .bool false)]
theorem zipTy (a b : Value) : checkTypeCall "zip" ⟨[a, b], kwS⟩ = pure () := by kernel_rfl
theorem zipNew (a b : Value) : checkBuiltinCall "zip.__new__" ⟨[.type "zip", a, b], kwS⟩ = pure () := by kernel_rfl
theorem zipIni (o a b : Value) : argsOk "object.__init__" ⟨[o, a, b], kwS⟩ := by
  unfold argsOk; rw [signature?_of (id := "object.__init__") (n := ['_', '_', 't', 'i', 'n', 'i', '_', '_']) (o := ['t', 'c', 'e', 'j', 'b', 'o']) (by kernel_rfl) F.owner_object]; kernel_rfl
theorem zipMakes (p q : Addr) (xs ys : Array Value) : Meets (Builtin.«zip.__new__» ⟨[.type "zip", .ref p, .ref q], kwS⟩) (fun _ R z => z.heap.IsList p xs ∧ z.heap.IsList q ys ∧ R (.ok (.ret (.ref (zipH4 z.heap p q).objs.size))) { z with heap := zipH5 z.heap p q }) :=
  .of_wp fun prog w A R z h => by
    obtain ⟨hp, g, d, tk, os⟩ := z
    obtain ⟨hx, hy, hr⟩ := h
    have hs := sub_zip
    have h1 : Heap.IsList (Shared.heap ⟨hp, g, d, tk, os⟩) p xs := hx
    have h2 : Heap.IsList (Shared.heap ⟨hp.push { cls := .type "list_iterator", data := .fields #[.ref p, .int 0 0] }, g, d, tk, os⟩) q ys := Heap.IsList.push hy _
    wp_walk using wpAny_pyIter_list h1, wpAny_pyIter_list h2
    exact ⟨_, rfl, hr⟩
theorem zipInit {o a b : Value} : Meets (Builtin.«object.__init__» ⟨[o, a, b], kwS⟩) (fun _ R z => z.TypeIs o "zip" ∧ R (.ok (.ret .none)) z) := by
  refine Meets.of_wp fun prog w A R z hz => ?_
  obtain ⟨hT, hq⟩ := hz
  have hl := F.called_zip.init.lookup
  have hm := F.called_zip.made
  repeat (any_goals (first | assumption | wp_step))
  exact ⟨_, rfl, hq⟩
end
end Wm
end
section
set_option Elab.async false
set_option linter.all false
set_option maxRecDepth 100000
set_option maxHeartbeats 4000000
/-! zip(xs, ys, strict=False): the call, the walk. -/
namespace Wm
open PySem PySem.Spec PyProof.Rows L2
open Sem (wp)
set_option autoImplicit false
section
variable {prog : Program} {w : World} {A : Around} {E : Value → Shared → Prop} {s : Shared}
theorem zipCall {p q : Addr} {Q : Value → Shared → Prop} {Sp0 : PySem.Spec} (g : Meets (Builtin.«zip.__new__» ⟨[.type "zip", .ref p, .ref q], kwS⟩) Sp0) (h : Sp0 A.in1 (wants (fun o z => z.TypeIs o "zip" ∧ Q o z) E) s) :
    wpAny (model prog w) A (call (.type "zip") [.ref p, .ref q] kwS) Q E s := by
  have ft := F.called_zip
  obtain ⟨c, tl, hmro⟩ := ft.mro
  have hmade := ft.made
  have hsub := ft.sub
  refine wpAny_call (codeAny_of_tree ?_)
  show wpAny _ _ (callAny (.type "zip") _) _ _ _
  refine wpAny_pure ⟨Code.quiet_builtin _ (by decide +kernel), codeAny_builtin F.entry_type_call ?_⟩
  rw [Around.under_plain (weight_type_call_type "zip" [.ref p, .ref q] kwS) (units_type_call_type "zip" [.ref p, .ref q] kwS)]
  have e1 := ft.notType
  have e2 := ft.canCreate
  have hct := zipTy (.ref p) (.ref q)
  have hcn := zipNew (.ref p) (.ref q)
  repeat (any_goals (first | assumption | wp_step))
  refine codeAny_mono (codeAny_call_builtin ft.plain F.entry_zip_new (wpAny_of_eq hcn (g prog w A.in1 _ s h))) fun r z hr => ?_
  cases r with
  | error e => exact hr
  | ok fl =>
    cases fl with
    | ret o =>
      obtain ⟨hT, hq⟩ := hr
      have l1 := ft.init.lookup
      have l2 := ft.init.bind o
      repeat (any_goals (first | assumption | wp_step))
      refine codeAny_mono (codeAny_call_builtin ft.init.plain F.entry_object_init (ft.init.check _ _ _ _ _ _ _ _ hT (zipIni o (.ref p) (.ref q)) (zipInit prog w A.in1 (wants (fun r z' => r = .none ∧ Q o z') E) z ⟨hT, rfl, hq⟩))) fun r2 z2 h2 => ?_
      cases r2 with
      | error e => exact h2
      | ok fl2 =>
        cases fl2 with
        | ret r =>
          obtain ⟨rfl, hq⟩ := h2
          repeat (any_goals (first | assumption | wp_step))
        | _ => exact h2.elim
    | _ => exact hr.elim
theorem zipCall2 {p q : Addr} {xs ys : Array Value} {Q : Value → Shared → Prop} (hx : s.heap.IsList p xs) (hy : s.heap.IsList q ys)
    (h : ∀ h', IsZip h' (s.heap.objs.size + 4) (s.heap.objs.size + 2) (s.heap.objs.size + 3) .none → IsPair h' (s.heap.objs.size + 2) (.ref s.heap.objs.size) (.ref (s.heap.objs.size + 1)) →
      IsPair h' (s.heap.objs.size + 3) .none .none → h'.IsListIter s.heap.objs.size p 0 → h'.IsListIter (s.heap.objs.size + 1) q 0 → h'.objs.size = s.heap.objs.size + 5 →
      (∀ c o, s.heap.get? c = some o → h'.get? c = some o) → Q (.ref (s.heap.objs.size + 4)) { s with heap := h' }) :
    wpAny (model prog w) A (call (.type "zip") [.ref p, .ref q] kwS) Q E s := by
  refine zipCall (zipMakes p q xs ys) ⟨hx, hy, ?_⟩
  have z1 : (zipH1 s.heap p).objs.size = s.heap.objs.size + 1 := Heap.size_push ..
  have z2 : (zipH2 s.heap p q).objs.size = s.heap.objs.size + 2 := by rw [Heap.size_push, z1]
  have z3 : (zipH3 s.heap p q).objs.size = s.heap.objs.size + 3 := by rw [Heap.size_push, z2]
  have z4 : (zipH4 s.heap p q).objs.size = s.heap.objs.size + 4 := by rw [Heap.size_push, z3]
  have z5 : (zipH5 s.heap p q).objs.size = s.heap.objs.size + 5 := by rw [Heap.size_push, z4]
  have k1 : ∀ {hh : Heap} {o : Obj} {c : Addr} {u : Obj}, hh.get? c = some u → (hh.push o).get? c = some u := fun e => Heap.get?_push_of_some _ e
  have g5 : (zipH5 s.heap p q).get? (zipH4 s.heap p q).objs.size = some _ := Heap.get?_push_size _ rfl
  have g4 : (zipH5 s.heap p q).get? (zipH3 s.heap p q).objs.size = some _ := k1 (Heap.get?_push_size _ rfl)
  have g3 : (zipH5 s.heap p q).get? (zipH2 s.heap p q).objs.size = some _ := k1 (k1 (Heap.get?_push_size _ rfl))
  have g2 : (zipH5 s.heap p q).get? (zipH1 s.heap p).objs.size = some _ := k1 (k1 (k1 (Heap.get?_push_size _ rfl)))
  have g1 : (zipH5 s.heap p q).get? s.heap.objs.size = some _ := k1 (k1 (k1 (k1 (Heap.get?_push_size _ rfl))))
  show _ ∧ _
  rw [z2, z3, z4] at g5
  rw [z1, z2] at g3
  rw [z3] at g4
  rw [z1] at g2
  rw [z4]
  exact ⟨⟨_, g5, rfl⟩, h _ g5 g3 g4 ⟨_, g1, rfl, rfl⟩ ⟨_, g2, rfl, rfl⟩ z5 fun c o e => k1 (k1 (k1 (k1 (k1 e))))⟩
end
theorem callWithTyKw {M : Model} {A : Around} {E : Value → Shared → Prop} {s : Shared} {env : Env} {pos : Pos} {T : String} {e : Expr} {rest : List Expr} {kws : List Keyword} {Q : Value → Shared → Prop}
    (h : wpAny M A (spliced (backTo pos (starEach (e :: rest) env))) (fun vs s₁ => wpAny M A (evalAll ((backToKw pos (keywordEach kws env)).map (·.2)))
      (fun kvs s₂ => wpAny M A (call (.type T) vs (((backToKw pos (keywordEach kws env)).filterMap (·.1)).zip kvs)) Q E s₂) E s₁) E s)
    (he : backTo pos (starEach (e :: rest) env) = (false, eval e env) :: backTo pos (starEach rest env))
    (h1 : (backTo pos (starEach (e :: rest) env)).any (·.1) = false)
    (h2 : (backToKw pos (keywordEach kws env)).all (·.1.isSome) = true)
    (h3 : (backToKw pos (keywordEach kws env)).any (·.1.isNone) = false) :
    wpAny M A (callWith pos (.type T) [] (backTo pos (starEach (e :: rest) env)) (backToKw pos (keywordEach kws env))) Q E s := by
  unfold callWith
  rw [he] at h h1 ⊢
  refine wpAny_bind (wpAny_holding (wpAny_mono (evalArgs_kwB (Q := fun a z => wpAny M A (call (.type T) ([] ++ a.pos) a.kw) Q E z) h2 h) (fun a z hz => wpAny_bind (wpAny_standAt ?_)) fun _ _ x => x))
  simp only [h1, h3, Bool.or_false]
  refine wpAny_bind (wpAny_pure ?_)
  exact wpAny_bind (wpAny_mono hz (fun r z2 hr => wpAny_bind (wpAny_holding (wpAny_point (wpAny_pure hr)))) fun _ _ x => x)
def iZipF (K : PySem.W.Frag) (ta : TA) : TI := fun σ H R => ta σ H fun vs H1 => ∃ a b xs ys, vs = [.ref a, .ref b] ∧ SqL K H1 a xs ∧ SqL K H1 b ys ∧ R (Itz K a b) H1
theorem pi_zipF {X : Cx} {e e2 : Expr} {ta : TA} {p pos tpos kp cp : Pos} {j : Nat} {elts : List Expr} {kk : Nat} (hg : Gl X "zip") (hm : X.mg "zip" = none) (ha : PA X [e, e2] ta)
    (hs : backTo pos (starEach [e, e2] X.env) = (false, eval e X.env) :: backTo pos (starEach [e2] X.env) := by rfl) (hpl : (backTo pos (starEach [e, e2] X.env)).any (·.1) = false := by rfl)
    (h2 : (backToKw pos (keywordEach [⟨some "strict", .Constant (.bool false) j cp, kp⟩] X.env)).all (·.1.isSome) = true := by rfl)
    (h3 : (backToKw pos (keywordEach [⟨some "strict", .Constant (.bool false) j cp, kp⟩] X.env)).any (·.1.isNone) = false := by rfl) :
    PI X (.Tuple elts kk tpos) (.Call (.Name "zip" p) [e, e2] [⟨some "strict", .Constant (.bool false) j cp, kp⟩] pos) (iZipF X.K ta) := by
  refine ⟨fun pins s σ H R I h => ?_⟩
  refine wpAny_Call_Name_kw (ld_blt I hg hm PyProof.Rows.boot_zip (callWithTyKw (thn (ha.run pos pins s σ H _ I h) fun us s1 ⟨vs, H1, I1, r1, q1⟩ => ?_) hs hpl h2 h3))
  refine kws_cons ?_
  refine (show wpAny _ _ (eval (.Constant (.bool false) j cp) X.env) _ _ s1 from ?_)
  refine thn ((pe_bl (X := X) (b := false) (j := j) (pos := cp)).run pins s1 σ H1 (fun v H' => v = .bl false ∧ H' = H1) I1 ⟨rfl, rfl⟩) fun u s2 ⟨v, H2, I2, rv, ev, eh⟩ => kws_nil ?_
  subst ev
  subst eh
  cases (show u = Value.bool false from rv)
  obtain ⟨a, b, xs, ys, ex, hqx, hqy, q⟩ := q1
  subst ex
  cases r1 with
  | cons r rr =>
    cases rr with
    | cons r' rr =>
      cases rr
      cases r
      cases r'
      obtain ⟨its, rv1, p1, _⟩ := I2.list hqx
      obtain ⟨its2, rv2, p2, _⟩ := I2.list hqy
      refine zipCall2 p1.isList p2.isList fun h' hz hTI hTO g1 g2 hsz hk => wpAny_pyIter_zip hz ?_
      have I3 : Inv X pins σ H2 { s2 with heap := h' } := I2.kept (t' := s2.toks) hk
      generalize hS : s2.heap.objs.size = S at *
      refine ⟨S + 4, [S + 4, S + 2, S + 3, S, S + 1], _, _, H2, rfl, I3, turn_zip (PySem.W.ktu_apart S a b (by rw [← hS]; exact p1.lt) (by rw [← hS]; exact p2.lt)), ⟨hz, hTI, ⟨_, _, hTO⟩, g1, g2⟩, fun c hc => ?_, q⟩
      have hle : s2.heap.objs.size ≤ c := by
        rw [hS]
        simp only [List.mem_cons, List.not_mem_nil, or_false] at hc
        rcases hc with z | z | z | z | z
        · rw [z]; exact Nat.le_add_right _ _
        · rw [z]; exact Nat.le_add_right _ _
        · rw [z]; exact Nat.le_add_right _ _
        · rw [z]; exact Nat.le_refl _
        · rw [z]; exact Nat.le_add_right _ _
      exact I2.fpOk hle (I2.hok.fresh hle)
end Wm
end
section
set_option Elab.async false
set_option linter.all false
set_option maxRecDepth 100000
set_option maxHeartbeats 4000000
/-! Layers, what lies under a place, pairs: walked. -/
namespace Wm
open PySem PySem.Spec PyProof.Rows L2 WmM
set_option autoImplicit false
/-- the i-th statement of a def is a return: what it gives -/
def retE (st : Stmt) (i : Nat) : Expr := match (defBody st)[i]? with
  | some (.Return (some e) _) => e
  | _ => .Constant .none 0 ⟨0, 0, 0, 0⟩
def compSc : Expr → Scope
  | .ListComp _ _ sc _ => sc
  | _ => { kind := .function, names := [], isGenerator := false, isCoroutine := false }
def PairAt (H : Hp) (q : Addr) (fg : Fc × Fc) : Prop := ∃ a b, H q = some (.tup [.ref a, .ref b]) ∧ TupF H a fg.1 ∧ TupF H b fg.2
def PairsAt (H : Hp) (qs : List Addr) (fgs : List (Fc × Fc)) : Prop := Paired (PairAt H) qs fgs
def PairsL (H : Hp) (l : Addr) (fgs : List (Fc × Fc)) : Prop := ∃ qs, H l = some (.lst (qs.map V.ref)) ∧ PairsAt H qs fgs
def LayersAt (H : Hp) (l : Addr) (Ls : List (List (Fc × Fc))) : Prop := ∃ as, H l = some (.lst (as.map V.ref)) ∧ Paired (PairsL H) as Ls
theorem PairAt.tk {H H' : Hp} (k : TK H H') {q : Addr} {fg : Fc × Fc} (h : PairAt H q fg) : PairAt H' q fg := let ⟨a, b, h1, h2, h3⟩ := h; ⟨a, b, k _ _ h1, k _ _ h2, k _ _ h3⟩
theorem PairsAt.tk {H H' : Hp} (k : TK H H') {qs : List Addr} {fgs : List (Fc × Fc)} (h : PairsAt H qs fgs) : PairsAt H' qs fgs := paired_imp (fun _ _ h => PairAt.tk k h) h
theorem PairsAt.snoc {H : Hp} {qs : List Addr} {fgs : List (Fc × Fc)} {q : Addr} {fg : Fc × Fc} (h : PairsAt H qs fgs) (e : PairAt H q fg) : PairsAt H (qs ++ [q]) (fgs ++ [fg]) := paired_app h (.cons e .nil)
theorem PairsL.kn {H H' : Hp} {l : Addr} {fgs : List (Fc × Fc)} (k : Kn H H') (h : PairsL H l fgs) : PairsL H' l fgs := let ⟨qs, h1, h2⟩ := h; ⟨qs, k _ _ h1 rfl, h2.tk k.tk⟩
theorem PairsL.upd {H : Hp} {l D : Addr} {fgs : List (Fc × Fc)} {xs : List V} {o : HO} (n : l ≠ D) (hD : H D = some (.lst xs)) (h : PairsL H l fgs) : PairsL (L2.upd H D o) l fgs := let ⟨qs, h1, h2⟩ := h; ⟨qs, by rw [upd_ne n]; exact h1, h2.tk (TK.lst hD)⟩
theorem LayersAt.kn {H H' : Hp} {l : Addr} {Ls : List (List (Fc × Fc))} (k : Kn H H') (h : LayersAt H l Ls) : LayersAt H' l Ls := let ⟨as, h1, h2⟩ := h; ⟨as, k _ _ h1 rfl, paired_imp (fun _ _ h => h.kn k) h2⟩
def sp_faces_at (K : PySem.W.Frag) : Sp := fun vs H Q _ => ∃ (p a : Addr) (S : Shp) (y : Ply) (pl : Int), vs = [.ref p, .ref a, .int pl] ∧ ShopAt K H p S ∧ TupF H a y.key ∧ PlyOk S y ∧ ∀ H' l, Same H H' → H l = none → PairsL H' l (faceAt S pl y).toList → Q (.ref l) H'
def sp_layers_of (K : PySem.W.Frag) : Sp := fun vs H Q _ => ∃ (p l : Addr) (S : Shp) (ps : List Ply), vs = [.ref p, .ref l] ∧ ShopAt K H p S ∧ ShpOk S ∧ PliesAt H l ps ∧ PliesOk S ps ∧ ∀ H' l', Same H H' → LayersAt H' l' (layersOf S ps) → Q (.ref l') H'
section
variable {P : Program} {w : World} {K : PySem.W.Frag} {mg : Str → Option Value} {base : Heap}
theorem lens_at {S : Shp} {y : Ply} (O : PlyOk S y) : atI (S.ls.map V.int) y.s = some (.int (S.ls.getD y.s.toNat 0)) := by
  have s0 := O.s0
  have s1 := O.s1
  have e : ((y.s.toNat : Nat) : Int) = y.s := Int.toNat_of_nonneg s0
  have h : y.s.toNat < S.ls.length := by omega
  rw [← e]
  refine atI_nat (v := V.int (S.ls.getD y.s.toNat 0)) ?_
  rw [List.getElem?_map, List.getElem?_eq_getElem h, List.getD_eq_getElem?_getD, List.getElem?_eq_getElem h]
  rfl
theorem ok_faces_at (T : Tx K mg) : Dn P w K mg base 1 (He.ga K "faces_at") ["shop", "ply", "place"] (sp_faces_at K) := by
  refine dn_of T.F_faces_at sc_faces_at (fun _ _ _ _ _ _ us hl => match us, hl with | [_, _, _], _ => rfl) (fun vs H Q E h => ?_) (fun cdv A outer s H vs Q E hr h => ?_)
  · obtain ⟨_, _, _, _, _, rfl, _⟩ := h
    rfl
  · obtain ⟨p, a, S, y, pl, rfl, ⟨ll, dx, ld, as, hp, hd, pd, hl⟩, hy, O, k⟩ := h
    have hy2 : H a = some (.tup [.int y.s, .str y.e, .str y.d]) := hy
    refine ⟨_, (pss_cons (ps_asg (pv 1) (pg_tup (by rfl) (pgs_cons (pg_name (i := 3) sc_faces_at.nd rfl (.inl rfl)) (pgs_cons (pg_name (i := 4) sc_faces_at.nd rfl (.inl rfl)) (pgs_cons (pg_name (i := 5) sc_faces_at.nd rfl (.inl rfl)) pgs_nil))))) (pss_cons (ps_set (i := 6) sc_faces_at.nd rfl (.inl rfl) (pe_ix ix_list (pe_fld (pv 0) rfl) (pv 3) (fun _ _ => rfl))) (pss_cons (ps_if (pt_cmpR op_ge (pv 2) (pv 6) (nomark _)) (pss_one (ps_ret (pe_lst pa_nil))) pss_nil) (pss_cons (ps_set (i := 7) sc_faces_at.nd rfl (.inl rfl) (pe_ifExp (pt_cmpR op_eq (pv 4) pe_str (nomark _)) (pv 2) (pe_op op_sub (pe_op op_sub (pv 6) pe_int) (pv 2)))) (pss_cons (ps_set (i := 8) sc_faces_at.nd rfl (.inl rfl) (pe_ifExp (pt_cmpR op_eq (pv 5) pe_str (nomark _)) pe_str pe_str)) (pss_one (ps_ret (pe_lst (pa_cons (pe_tup (pa_cons (pe_tup (pa_cons pe_str (pa_cons (pv 3) (pa_cons (pv 7) (pa_cons (pv 5) pa_nil))))) (pa_cons (pe_tup (pa_cons pe_str (pa_cons (pv 3) (pa_cons (pv 7) (pa_cons (pv 8) pa_nil))))) pa_nil))) pa_nil))))))))), ?_⟩
    refine ⟨_, rfl, a, _, rfl, SqT.of hy2, rfl, _, _, rfl, _, _, rfl, _, _, rfl, rfl, ?_⟩
    refine ⟨_, rfl, p, _, dx, _, _, rfl, hp, T.c_Shop, T.a_Shop_lengths, lkLn, _, rfl, ll, _, y.s, _, rfl, rfl, SqL.of hl, lens_at O, ?_⟩
    generalize hm : S.ls.getD y.s.toNat 0 = m
    have hf : faceAt S pl y = if m ≤ pl then none else some (fSt y.s (if y.e = "head" then pl else m - 1 - pl) y.d, fSt y.s (if y.e = "head" then pl else m - 1 - pl) (othSide y.d)) := by
      unfold faceAt
      rw [hm]
    refine ⟨_, rfl, _, rfl, _, _, rfl, rfl, _, rfl, ifd (fun hlt => ?_) fun hlt => ?_⟩
    · refine ⟨Nat.zero_le _, fun l hl => k _ l (Same.new hl) hl ⟨[], upd_same, ?_⟩⟩
      rw [hf, if_pos hlt]
      exact .nil
    · rw [if_neg hlt] at hf
      have last : ∀ (c : Int) (o : Str), faceAt S pl y = some (fSt y.s c y.d, fSt y.s c o) → ∀ t1, H t1 = none → ∀ t2, upd H t1 (.tup [.str "strip", .int y.s, .int c, .str y.d]) t2 = none → ∀ t3, upd (upd H t1 (.tup [.str "strip", .int y.s, .int c, .str y.d])) t2 (.tup [.str "strip", .int y.s, .int c, .str o]) t3 = none →
          ∀ l, upd (upd (upd H t1 (.tup [.str "strip", .int y.s, .int c, .str y.d])) t2 (.tup [.str "strip", .int y.s, .int c, .str o])) t3 (.tup [.ref t1, .ref t2]) l = none → Q (.ref l) (upd (upd (upd (upd H t1 (.tup [.str "strip", .int y.s, .int c, .str y.d])) t2 (.tup [.str "strip", .int y.s, .int c, .str o])) t3 (.tup [.ref t1, .ref t2])) l (.lst [.ref t3])) := by
        intro c o hfc t1 h1 t2 h2 t3 h3 l h4
        refine k _ l (((Same.new h1).trans (Same.new h2)).trans ((Same.new h3).trans (Same.new h4))) ((((Same.new h1).trans (Same.new h2)).trans (Same.new h3)).free h4) ⟨[t3], upd_same, ?_⟩
        rw [hfc]
        refine .cons ⟨t1, t2, kept upd_same h4, kept (kept (kept upd_same h2) h3) h4, kept (kept upd_same h3) h4⟩ .nil
      have sz2 : ([V.str "strip", .int y.s, .int 0, .str y.d] : List V).length ≤ sizeLine := by show 4 ≤ sizeLine; decide
      rcases O.e with e1 | e1 <;> rcases O.d with e2 | e2
      · refine ⟨_, rfl, rfl, _, rfl, ifT (by rw [e1]; decide +kernel) ⟨_, rfl, ?_⟩⟩
        refine ⟨_, rfl, rfl, _, rfl, ifT (by rw [e2]; decide +kernel) ?_⟩
        refine ⟨_, rfl, _, rfl, _, rfl, by show 4 ≤ sizeLine; decide, fun t1 h1 => ⟨_, rfl, _, rfl, _, rfl, by show 4 ≤ sizeLine; decide, fun t2 h2 => ⟨by show 2 ≤ sizeLine; decide, fun t3 h3 => ⟨by show 1 ≤ sizeLine; decide, fun l h4 => last pl "front" ?_ t1 h1 t2 h2 t3 h3 l h4⟩⟩⟩⟩
        rw [hf, e1, e2]
        rfl
      · refine ⟨_, rfl, rfl, _, rfl, ifT (by rw [e1]; decide +kernel) ⟨_, rfl, ?_⟩⟩
        refine ⟨_, rfl, rfl, _, rfl, ifF (by rw [e2]; decide +kernel) ?_⟩
        refine ⟨_, rfl, _, rfl, _, rfl, by show 4 ≤ sizeLine; decide, fun t1 h1 => ⟨_, rfl, _, rfl, _, rfl, by show 4 ≤ sizeLine; decide, fun t2 h2 => ⟨by show 2 ≤ sizeLine; decide, fun t3 h3 => ⟨by show 1 ≤ sizeLine; decide, fun l h4 => last pl "back" ?_ t1 h1 t2 h2 t3 h3 l h4⟩⟩⟩⟩
        rw [hf, e1, e2]
        rfl
      · refine ⟨_, rfl, rfl, _, rfl, ifF (by rw [e1]; decide +kernel) ⟨_, rfl, _, _, rfl, rfl, _, rfl, _, _, rfl, rfl, ?_⟩⟩
        refine ⟨_, rfl, rfl, _, rfl, ifT (by rw [e2]; decide +kernel) ?_⟩
        refine ⟨_, rfl, _, rfl, _, rfl, by show 4 ≤ sizeLine; decide, fun t1 h1 => ⟨_, rfl, _, rfl, _, rfl, by show 4 ≤ sizeLine; decide, fun t2 h2 => ⟨by show 2 ≤ sizeLine; decide, fun t3 h3 => ⟨by show 1 ≤ sizeLine; decide, fun l h4 => last (m - 1 - pl) "front" ?_ t1 h1 t2 h2 t3 h3 l h4⟩⟩⟩⟩
        rw [hf, e1, e2]
        rfl
      · refine ⟨_, rfl, rfl, _, rfl, ifF (by rw [e1]; decide +kernel) ⟨_, rfl, _, _, rfl, rfl, _, rfl, _, _, rfl, rfl, ?_⟩⟩
        refine ⟨_, rfl, rfl, _, rfl, ifF (by rw [e2]; decide +kernel) ?_⟩
        refine ⟨_, rfl, _, rfl, _, rfl, by show 4 ≤ sizeLine; decide, fun t1 h1 => ⟨_, rfl, _, rfl, _, rfl, by show 4 ≤ sizeLine; decide, fun t2 h2 => ⟨by show 2 ≤ sizeLine; decide, fun t3 h3 => ⟨by show 1 ≤ sizeLine; decide, fun l h4 => last (m - 1 - pl) "back" ?_ t1 h1 t2 h2 t3 h3 l h4⟩⟩⟩⟩
        rw [hf, e1, e2]
        rfl
theorem filt_succ {α β : Type} (f : α → Option β) (l : List α) (i : Nat) {x : α} (h : l[i]? = some x) : (l.take (i + 1)).filterMap f = (l.take i).filterMap f ++ (f x).toList := by
  rw [List.take_add_one, h, List.filterMap_append]
  cases e : f x <;> simp [e]
theorem ok_layers_of (T : Tx K mg) : Dn P w K mg base 2 (He.ga K "layers_of") ["shop", "plies"] (sp_layers_of K) := by
  refine dn_of T.F_layers_of sc_layers_of (fun _ _ _ _ _ _ us hl => match us, hl with | [_, _], _ => rfl) (fun vs H Q E h => ?_) (fun cdv A outer s H vs Q E hr h => ?_)
  · obtain ⟨_, _, _, _, rfl, _⟩ := h
    rfl
  · obtain ⟨p, l, S, ps, rfl, hS, O, ⟨as, hl, pa⟩, OP, k⟩ := h
    obtain ⟨ll, dx, ld, ads, hp, hd, pd, hll⟩ := id hS
    have la : as.length = ps.length := by have := Paired.length pa; rw [List.length_map] at this; exact this
    have := OP.l1; have := OP.l2
    refine ⟨_, (pss_cons (ps_set (i := 2) sc_layers_of.nd rfl (.inl rfl) (pe_callB (cr_max rfl) (by rfl) T.n_max (by decide +kernel) (pa_cons (pe_lc (own := [("strip", 3), ("end", 4), ("side", 5)]) (g := (gTup K 3 (gCons (gName 3) (gCons (gName 4) (gCons (gName 5) gNil))))) rfl sc_layers_of.nd (pi_list (pv 1)) (blkOk_by (own := [("strip", 3), ("end", 4), ("side", 5)]) (N := ["shop", "plies", "most", "strip", "end", "side", "place", "ply", "faces"]) (sc := (defScope s_layers_of)) (by decide +kernel)) (fun _ _ _ _ _ => (pg_tup (by rfl) (pgs_cons (pg_name (i := 3) sc_layers_of.nd rfl (.inl rfl)) (pgs_cons (pg_name (i := 4) sc_layers_of.nd rfl (.inl rfl)) (pgs_cons (pg_name (i := 5) sc_layers_of.nd rfl (.inl rfl)) pgs_nil))))) (fun _ _ _ _ _ => pts_nil) (fun _ _ _ _ _ => (pe_ix (ix_listK K) (pe_fldK K (pv 0) rfl) (pv 3) (fun _ _ => rfl)))) pa_nil))) (pss_one (ps_ret (pe_lc (own := [("place", 6)]) (g := (gName 6)) rfl sc_layers_of.nd (pi_range1 (by rfl) T.n_range (pa_cons (pv 2) pa_nil)) (blkOk_by (own := [("place", 6)]) (N := ["shop", "plies", "most", "strip", "end", "side", "place", "ply", "faces"]) (sc := (defScope s_layers_of)) (by decide +kernel)) (fun _ _ _ _ _ => (pg_name (i := 6) sc_layers_of.nd rfl (.inr rfl))) (fun _ _ _ _ _ => pts_nil) (fun _ _ _ _ _ => (pe_lc2 (wi := iList K _) (own := [("ply", 7), ("faces", 8)]) (vs1 := [8]) (wi1 := iList K _) rfl sc_layers_of.nd (pi_list (pv 1)) (blkOk_by (own := [("ply", 7), ("faces", 8)]) (N := ["shop", "plies", "most", "strip", "end", "side", "place", "ply", "faces"]) (sc := (relS (compSc (retE s_layers_of 1)) (defScope s_layers_of))) (by decide +kernel)) (by decide) (fun _ _ _ _ _ => (pg_name (i := 7) sc_layers_of.nd rfl (.inl rfl))) (fun _ _ _ _ _ => pts_nil) (fun _ _ _ _ _ => (pi_list (pc (ok_faces_at T) hr rfl T.g_faces_at (pa_cons (pv 0) (pa_cons (pv 7) (pa_cons (pv 6) pa_nil)))))) (fun _ _ _ _ _ => (pg_name (i := 8) sc_layers_of.nd rfl (.inl rfl))) (fun _ _ _ _ _ => pts_nil) (fun _ _ _ _ _ => (pv 8)))))))), ?_⟩
    refine ⟨_, rfl, l, rfl, ⟨_, SqL.of hl⟩, fun D hD => ?_⟩
    refine lc_it walk_listF (fun i H' => Same H H' ∧ H' D = some (.lst (((lens S ps).take i).map V.int))) ⟨Same.new hD, upd_same⟩ (fun i H' _ q => SqL.of (q.1 _ _ hl)) ?_ ?_
    · rintro i x H1 H2 hi ⟨s1, hD1⟩ ⟨rfl, a, e2, rfl⟩
      obtain ⟨f, e3, dr⟩ := paired_get pa e2
      obtain ⟨y, e4, rfl⟩ := map_at (f := Ply.key) e3
      have hy := OP.ok y (List.mem_of_getElem? e4)
      have hy2 : H2 a = some (.tup [.int y.s, .str y.e, .str y.d]) := s1 _ _ dr
      refine ⟨a, _, rfl, SqT.of hy2, rfl, _, _, rfl, _, _, rfl, _, _, rfl, rfl, rfl, ?_⟩
      refine ⟨_, rfl, p, _, dx, _, _, rfl, s1 _ _ hp, T.c_Shop, T.a_Shop_lengths, lkLn, _, rfl, ll, _, y.s, _, rfl, rfl, SqL.of (s1 _ _ hll), lens_at hy, _, hD1, by rw [List.length_map, List.length_take]; exact small1000 (by omega), ?_⟩
      refine ⟨s1.over hD, ?_⟩
      have e5 : (lens S ps)[i]? = some (S.ls.getD y.s.toNat 0) := by
        unfold lens
        rw [List.getElem?_map, e4]
        rfl
      rw [upd_same, List.take_add_one, e5, List.map_append]
      rfl
    · rintro H1 ⟨s1, hD1⟩
      have ll' : (lens S ps).length = as.length := by rw [la]; simp [lens]
      rw [← ll', List.take_length] at hD1
      refine ⟨D, _, rfl, SqL.of hD1, by rw [ll']; omega, fun m hm hle => ?_⟩
      have hm0 : mostOf S ps = m := by
        refine mostOf_eq hm hle ?_
        obtain ⟨y, hy, e⟩ := List.mem_map.mp hm
        have o := OP.ok y hy
        have := o.s0; have := o.s1
        have := O.lr _ (getD_mem (d := 0) (show y.s.toNat < S.ls.length by omega))
        omega
      have hm40 := most_le O OP.ok
      rw [hm0] at hm40
      refine ⟨_, rfl, m, rfl, ?_, by omega, fun E hE => ?_⟩
      · have := hle _ hm
        obtain ⟨y, hy, e⟩ := List.mem_map.mp hm
        have o := OP.ok y hy
        have := o.s0; have := o.s1
        have := O.lr _ (getD_mem (d := 0) (show y.s.toNat < S.ls.length by omega))
        omega
      · refine lc_it walk_range (fun j H' => Same H H' ∧ ∃ bs, H' E = some (.lst (bs.map V.ref)) ∧ Paired (fun b L => b ≠ E ∧ PairsL H' b L) bs ((List.range j).map fun (i : Nat) => layerAt S ps i) ∧ bs.length = j) ⟨s1.trans (Same.new hE), [], upd_same, .nil, rfl⟩ (fun _ _ _ _ => trivial) ?_ ?_
        · rintro j x H2 H3 hj ⟨s2, bs, hbs, pb, lb⟩ ⟨rfl, rfl⟩
          refine ⟨rfl, _, rfl, l, rfl, ⟨_, SqL.of (s2 _ _ hl)⟩, fun F hF => ?_⟩
          refine lc_out walk_listF (fun i H' => Same H3 H' ∧ ∃ qs, H' F = some (.lst (qs.map V.ref)) ∧ PairsAt H' qs ((ps.take i).filterMap (faceAt S j)) ∧ qs.length ≤ i) ⟨Same.new hF, [], upd_same, .nil, Nat.le_refl _⟩ (fun i H' _ q => SqL.of (q.1 _ _ (s2 _ _ hl))) ?_ ?_
          · rintro i x H4 H5 hi ⟨s4, qs, hqs, pq, lq⟩ ⟨rfl, a, e2, rfl⟩
            obtain ⟨f, e3, dr⟩ := paired_get pa e2
            obtain ⟨y, e4, rfl⟩ := map_at (f := Ply.key) e3
            have hy := OP.ok y (List.mem_of_getElem? e4)
            have s5 := s2.trans s4
            refine ⟨rfl, _, rfl, _, rfl, _, rfl, p, a, S, y, 0 + (j : Int), rfl, hS.kn (Kn.same s5), s5 _ _ dr, hy, fun H6 l6 s6 n6 ⟨rs, h6, p6⟩ => ?_⟩
            rw [Int.zero_add] at p6
            have hl6 : (faceAt S j y).toList.length ≤ 1 := by cases faceAt S j y <;> simp
            refine ⟨l6, rfl, ⟨_, SqL.of h6⟩, lc_in walk_listF (fun m H' => Same H3 H' ∧ H' l6 = some (.lst (rs.map V.ref)) ∧ PairsAt H' rs (faceAt S j y).toList ∧ ∃ qs, H' F = some (.lst (qs.map V.ref)) ∧ PairsAt H' qs ((ps.take i).filterMap (faceAt S j) ++ (faceAt S j y).toList.take m) ∧ qs.length ≤ i + m) ⟨s4.trans s6, h6, p6, qs, s6 _ _ hqs, by simpa using pq.tk (TK.same s6), lq⟩ (fun m H' _ q => SqL.of q.2.1) ?_ ?_⟩
            · rintro m x H7 H8 hm ⟨s7, h7, p7, us, hus, pu, lu⟩ ⟨rfl, r, e7, rfl⟩
              obtain ⟨fg, e8, d8⟩ := paired_get p7 e7
              have lr : rs.length = (faceAt S j y).toList.length := Paired.length p7
              refine ⟨rfl, _, rfl, _, hus, by rw [List.length_map]; exact small1000 (by omega), ?_⟩
              have nlf : l6 ≠ F := fun z => by
                rw [z, hqs] at n6
                cases n6
              refine ⟨s7.over hF, by rw [upd_ne nlf]; exact h7, p7.tk (TK.lst hus), us ++ [r], by rw [upd_same, List.map_append]; rfl, ?_, by rw [List.length_append]; simp; omega⟩
              rw [List.take_add_one, e8, ← List.append_assoc]
              exact (pu.tk (TK.lst hus)).snoc (d8.tk (TK.lst hus))
            · rintro H7 ⟨s7, h7, p7, us, hus, pu, lu⟩
              have lr : rs.length = (faceAt S j y).toList.length := Paired.length p7
              rw [lr, List.take_length, ← filt_succ (faceAt S j) ps i e4] at pu
              exact ⟨s7, us, hus, pu, by omega⟩
          · rintro H4 ⟨s4, qs, hqs, pq, lq⟩
            rw [la, List.take_length] at pq
            have nEF : E ≠ F := ne_of_none hbs hF
            have hE4 := s4 _ _ hbs
            refine ⟨_, hE4, by rw [List.length_map, lb]; exact small1000 (by omega), (s2.trans s4).over (s1.free hE), bs ++ [F], by rw [upd_same, List.map_append]; rfl, ?_, by rw [List.length_append, lb]; rfl⟩
            rw [List.range_succ, List.map_append]
            refine paired_app (paired_imp (fun b L ⟨n, h⟩ => ⟨n, (h.kn (Kn.same s4)).upd n hE4⟩) pb) (.cons ⟨nEF.symm, PairsL.upd nEF.symm hE4 ⟨qs, hqs, pq⟩⟩ .nil)
        · rintro H2 ⟨s2, bs, hbs, pb, lb⟩
          refine k H2 E s2 ⟨bs, hbs, ?_⟩
          unfold layersOf
          rw [hm0]
          exact paired_imp (fun _ _ h => h.2) pb
end
end Wm
end
section
set_option Elab.async false
set_option linter.all false
set_option maxRecDepth 100000
set_option maxHeartbeats 4000000
/-! Faces as data: their order. -/
namespace Wm
open PySem PySem.Spec PyProof.Rows L2 WmM
set_option autoImplicit false
def keyD : Key → PyData
  | .inl i => .int i
  | .inr x => .str x
def faceD (f : Fc) : PyData := .tuple (f.map keyD)
def Shap (f : Fc) : Prop := ∃ k a b z, f = [.inr k, .inl a, .inl b, .inr z]
theorem shap_dr (d c : Int) : Shap (fDr d c) := ⟨_, _, _, _, rfl⟩
theorem shap_st (s c : Int) (x : Str) : Shap (fSt s c x) := ⟨_, _, _, _, rfl⟩
theorem shap_in {S : Shp} {f : Fc} (h : f ∈ facesOf S) : Shap f := by
  rcases List.mem_append.mp h with h | h
  · obtain ⟨i, _, h⟩ := List.mem_flatMap.mp h
    obtain ⟨c, _, rfl⟩ := List.mem_map.mp h
    exact shap_dr _ _
  · obtain ⟨i, _, h⟩ := List.mem_flatMap.mp h
    obtain ⟨c, _, h⟩ := List.mem_flatMap.mp h
    rcases List.mem_cons.mp h with rfl | h
    · exact shap_st _ _ _
    · rw [List.mem_singleton.mp h]
      exact shap_st _ _ _
theorem dp_keys {K : PySem.W.Frag} {H : Hp} : ∀ f : Fc, DpAll K H (f.map kV) (f.map keyD)
  | [] => .nil
  | .inl i :: f => .cons (.int i) (dp_keys f)
  | .inr x :: f => .cons (.str x) (dp_keys f)
theorem dp_face {K : PySem.W.Frag} {H : Hp} {a : Addr} {f : Fc} (h : TupF H a f) : Dp K H (.ref a) (faceD f) := .tup (SqT.of h) (dp_keys f)
theorem face_alike {f g : Fc} (h : Shap f) (k : Shap g) : PySem.W.alike (faceD f) (faceD g) = true := by
  obtain ⟨_, _, _, _, rfl⟩ := h
  obtain ⟨_, _, _, _, rfl⟩ := k
  rfl
theorem face_depth {f : Fc} (h : Shap f) : (faceD f).depth ≤ 1 := by
  obtain ⟨_, _, _, _, rfl⟩ := h
  exact Nat.le_refl _
theorem face_toks {f g : Fc} (h : Shap f) (k : Shap g) (e : PySem.W.keyToks (faceD f) = PySem.W.keyToks (faceD g)) : f = g := by
  obtain ⟨k1, a1, b1, z1, rfl⟩ := h
  obtain ⟨k2, a2, b2, z2, rfl⟩ := k
  have e1 : ([.inl 1, .inr k1.cps.toList, .inl 1, .inl a1, .inl 1, .inl b1, .inl 1, .inr z1.cps.toList, .inl 0] : List (Int ⊕ List Nat)) = [.inl 1, .inr k2.cps.toList, .inl 1, .inl a2, .inl 1, .inl b2, .inl 1, .inr z2.cps.toList, .inl 0] := e
  simp only [List.cons.injEq, Sum.inl.injEq, Sum.inr.injEq, and_true, true_and] at e1
  obtain ⟨e2, e3, e4, e5⟩ := e1
  rw [PySem.W.str_of_cps e2, e3, e4, PySem.W.str_of_cps e5]
theorem face_tri {f g : Fc} (h : Shap f) (k : Shap g) (h1 : PySem.W.dataLt (faceD f) (faceD g) = false) (h2 : PySem.W.dataLt (faceD g) (faceD f) = false) : f = g := face_toks h k (lex_total _ _ h1 h2)
theorem face_asym {f g : Fc} (h : PySem.W.dataLt (faceD f) (faceD g) = true) : PySem.W.dataLt (faceD g) (faceD f) = false := by
  cases e : PySem.W.dataLt (faceD g) (faceD f) with
  | false => rfl
  | true =>
    have q := lex_trans (O := itemOrd) _ _ _ h e
    rw [lex_irrefl] at q
    cases q
/-- the lesser of two faces, the greater -/
def minF (f g : Fc) : Fc := if PySem.W.dataLt (faceD g) (faceD f) = true then g else f
def maxF (f g : Fc) : Fc := if PySem.W.dataLt (faceD f) (faceD g) = true then g else f
theorem minmax {f g : Fc} (h : Shap f) (k : Shap g) : (minF f g = f ∧ maxF f g = g) ∨ (minF f g = g ∧ maxF f g = f) := by
  unfold minF maxF
  cases e1 : PySem.W.dataLt (faceD g) (faceD f) with
  | true => rw [face_asym e1]; exact .inr ⟨rfl, rfl⟩
  | false =>
    cases e2 : PySem.W.dataLt (faceD f) (faceD g) with
    | true => exact .inl ⟨rfl, rfl⟩
    | false =>
      have := face_tri h k e2 e1
      subst this
      exact .inl ⟨rfl, rfl⟩
theorem two_face {K : PySem.W.Frag} {H : Hp} {a b : Addr} {f g : Fc} (h1 : TupF H a f) (h2 : TupF H b g) (s1 : Shap f) (s2 : Shap g) : TwoD K H (.ref a) (.ref b) (faceD f) (faceD g) := by
  refine ⟨dp_face h1, dp_face h2, ⟨fun x hx y hy => ?_, fun x hx => ?_⟩, Nat.le_trans (face_depth s1) (by decide), Nat.le_trans (face_depth s2) (by decide)⟩
  · simp only [List.mem_cons, List.not_mem_nil, or_false] at hx hy
    rcases hx with rfl | rfl <;> rcases hy with rfl | rfl <;> exact face_alike (by assumption) (by assumption)
  · simp only [List.mem_cons, List.not_mem_nil, or_false] at hx
    rcases hx with rfl | rfl <;> exact fun z => nomatch z
/-- sorting faces: by what is in the list alone -/
abbrev leF : Fc → Fc → Bool := PySem.W.dataLe false faceD
theorem leF_anti {f g : Fc} (h : Shap f) (k : Shap g) (h1 : leF f g = true) (h2 : leF g f = true) : f = g := by
  have e1 : (!PySem.W.dataLt (faceD g) (faceD f)) = true := h1
  have e2 : (!PySem.W.dataLt (faceD f) (faceD g)) = true := h2
  exact face_tri h k (by simpa using e2) (by simpa using e1)
theorem sortF_same {xs ys : List Fc} (hx : xs.Nodup) (hy : ys.Nodup) (e : ∀ f, f ∈ xs ↔ f ∈ ys) (hs : ∀ f ∈ xs, Shap f) : xs.mergeSort leF = ys.mergeSort leF := by
  have p : (xs.mergeSort leF).Perm (ys.mergeSort leF) := (List.mergeSort_perm xs leF).trans (((List.perm_ext_iff_of_nodup hx hy).mpr e).trans (List.mergeSort_perm ys leF).symm)
  have t := PySem.W.sortLe_total (listOrd itemOrd) false fun f => PySem.W.keyToks (faceD f)
  refine List.Perm.eq_of_pairwise (le := fun a b => leF a b = true) (fun a b ha hb h1 h2 => ?_) (PySem.W.sort_pairwise t xs) (PySem.W.sort_pairwise t ys) p
  have ha := (List.mergeSort_perm xs leF).mem_iff.mp ha
  have hb := (e b).mpr ((List.mergeSort_perm ys leF).mem_iff.mp hb)
  exact leF_anti (hs a ha) (hs b hb) h1 h2
/-! pairs of faces as data -/
def pairD (p : Fc × Fc) : PyData := .tuple [faceD p.1, faceD p.2]
theorem dp_pair {K : PySem.W.Frag} {H : Hp} {q : Addr} {p : Fc × Fc} (h : PairAt H q p) : Dp K H (.ref q) (pairD p) := by
  obtain ⟨a, b, h1, h2, h3⟩ := h
  exact .tup (SqT.of h1) (.cons (dp_face h2) (.cons (dp_face h3) .nil))
theorem pair_alike {p q : Fc × Fc} (h1 : Shap p.1) (h2 : Shap p.2) (k1 : Shap q.1) (k2 : Shap q.2) : PySem.W.alike (pairD p) (pairD q) = true := by
  obtain ⟨p1, p2⟩ := p
  obtain ⟨q1, q2⟩ := q
  obtain ⟨_, _, _, _, e1⟩ := h1
  obtain ⟨_, _, _, _, e2⟩ := h2
  obtain ⟨_, _, _, _, e3⟩ := k1
  obtain ⟨_, _, _, _, e4⟩ := k2
  simp only at e1 e2 e3 e4
  subst e1 e2 e3 e4
  rfl
theorem pair_depth {p : Fc × Fc} (h1 : Shap p.1) (h2 : Shap p.2) : (pairD p).depth ≤ 8 := by
  obtain ⟨p1, p2⟩ := p
  obtain ⟨_, _, _, _, e1⟩ := h1
  obtain ⟨_, _, _, _, e2⟩ := h2
  simp only at e1 e2
  subst e1 e2
  show 2 ≤ 8
  decide
end Wm
end
section
set_option Elab.async false
set_option linter.all false
set_option maxRecDepth 100000
set_option maxHeartbeats 4000000
/-! What lies under a place, the pairs: walked. -/
namespace Wm
open PySem PySem.Spec PyProof.Rows L2 WmM
set_option autoImplicit false
theorem turn_ex {f s : Int} (hf : 1 ≤ f) (hs : 0 ≤ s) : ∀ c : Nat, ∃ t, Turn f s c t
  | 0 => ⟨0, Int.le_refl _, by rw [bgn0]; exact Int.le_refl _, by rw [bgn1, bgn0]; simp; omega⟩
  | c + 1 => by
    obtain ⟨t, h⟩ := turn_ex hf hs c
    by_cases e : ((c + 1 : Nat) : Int) < bgn f s (t + 1)
    · exact ⟨t, h.nn, by have := h.lo; omega, e⟩
    · refine ⟨t + 1, by have := h.nn; omega, by omega, ?_⟩
      have := h.hi
      have := h.nn
      have := bgn_lt hf hs (show (0 : Int) ≤ t + 1 by omega) (show t + 1 < t + 1 + 1 by omega)
      omega
theorem under_len {d f s : Int} {L : List (List (Fc × Fc))} {c : Nat} (R : DrumR f s) (hc : c ≤ 40) : (underOf d f s L c).length ≤ 41 := by
  obtain ⟨t, h⟩ := turn_ex R.f1 R.s1 c
  unfold underOf
  rw [turnOf_eq R.f1 R.s1 h]
  unfold underT
  by_cases e : t = 0
  · rw [if_pos e]
    exact (by decide : 1 ≤ 41)
  · rw [if_neg e]
    obtain ⟨b1, b2, b3, b4, b5, b6, b7, b8⟩ := under_bd R.f1 R.s1 h e
    rw [List.length_map, List.length_range]
    omega
theorem paired_last {α β : Type} {R : α → β → Prop} : ∀ {xs : List α} {ys : List β}, Paired R xs ys → ys ≠ [] → ∃ xs' x ys' y, xs = xs' ++ [x] ∧ ys = ys' ++ [y] ∧ R x y
  | _, _, .nil, h => absurd rfl h
  | a :: as, b :: bs, .cons r t, _ => by
    cases bs with
    | nil => cases t; exact ⟨[], a, [], b, rfl, rfl, r⟩
    | cons b' bs' =>
      obtain ⟨xs', x, ys', y, e1, e2, r'⟩ := paired_last t (by simp)
      exact ⟨a :: xs', x, b :: ys', y, by rw [e1]; rfl, by rw [e2]; rfl, r'⟩
theorem topF_last (l : List (Fc × Fc)) (x : Fc × Fc) : topF (l ++ [x]) = x.2 := by simp [topF]
abbrev fsR (d : Int) (a l nx rd : Addr) : List (Str × V) := [("drum_at", .int d), ("roller", .ref a), ("layers", .ref l), ("nexts", .ref nx), ("rounds", .ref rd)]
theorem r_d {d : Int} {a l nx rd : Addr} : (fsR d a l nx rd).lookup ("drum_at" : Str) = some (.int d) := look0
theorem r_a {d : Int} {a l nx rd : Addr} : (fsR d a l nx rd).lookup ("roller" : Str) = some (.ref a) := by rw [look1 (by decide +kernel), look0]
theorem r_l {d : Int} {a l nx rd : Addr} : (fsR d a l nx rd).lookup ("layers" : Str) = some (.ref l) := by rw [look1 (by decide +kernel), look1 (by decide +kernel), look0]
theorem r_n {d : Int} {a l nx rd : Addr} : (fsR d a l nx rd).lookup ("nexts" : Str) = some (.ref nx) := by rw [look1 (by decide +kernel), look1 (by decide +kernel), look1 (by decide +kernel), look0]
theorem r_r {d : Int} {a l nx rd : Addr} : (fsR d a l nx rd).lookup ("rounds" : Str) = some (.ref rd) := by rw [look1 (by decide +kernel), look1 (by decide +kernel), look1 (by decide +kernel), look1 (by decide +kernel), look0]
theorem r_no {d : Int} {a l nx rd : Addr} {m : Str} (h1 : ¬ m = "drum_at") (h2 : ¬ m = "roller") (h3 : ¬ m = "layers") (h4 : ¬ m = "nexts") (h5 : ¬ m = "rounds") : (fsR d a l nx rd).lookup m = none := by rw [look1 h1, look1 h2, look1 h3, look1 h4, look1 h5]; rfl
/-- a rolling's own fields -/
def RollO (K : PySem.W.Frag) (H : Hp) (p : Addr) (d : Int) (a l nx rd : Addr) : Prop := ∃ dx, H p = some (.ins (He.ga K "Rolling") dx (fsR d a l nx rd))
section
variable {X : Cx}
theorem cr_min2K (K : PySem.W.Frag) (hc : X.calm = true) (hu : X.A.units + 64 < cLine) (hK : X.K = K := by rfl) : CallR X (.builtin "min") (fun vs H Q => ∃ x y d e, vs = [x, y] ∧ TwoD K H x y d e ∧ Q (if PySem.W.dataLt e d = true then y else x) H) := by
  subst hK
  exact cr_min2 hc hu
theorem cr_max2K (K : PySem.W.Frag) (hc : X.calm = true) (hu : X.A.units + 64 < cLine) (hK : X.K = K := by rfl) : CallR X (.builtin "max") (fun vs H Q => ∃ x y d e, vs = [x, y] ∧ TwoD K H x y d e ∧ Q (if PySem.W.dataLt d e = true then y else x) H) := by
  subst hK
  exact cr_max2 hc hu
end
def sp_Rolling_under (K : PySem.W.Frag) : Sp := fun vs H Q _ => ∃ (p : Addr) (d : Int) (a l nx rd : Addr) (f s : Int) (L : List (List (Fc × Fc))) (c : Nat), vs = [.ref p, .int c] ∧ RollO K H p d a l nx rd ∧ DrumAt K H a f s ∧ DrumR f s ∧ LayersAt H l L ∧ (∀ i, i < L.length → L.getD i [] ≠ []) ∧ c < L.length ∧ L.length ≤ 40 ∧
  ∀ H' l', Same H H' → H l' = none → FacesL H' l' (underOf d f s L c) → Q (.ref l') H'
section
variable {P : Program} {w : World} {K : PySem.W.Frag} {mg : Str → Option Value} {base : Heap}
theorem ok_Rolling_under (T : Tx K mg) : Dn P w K mg base 5 (He.ma K (He.ga K "Rolling") "under") ["self", "place"] (sp_Rolling_under K) := by
  refine dn_of T.F_Rolling_under sc_Rolling_under (fun _ _ _ _ _ _ us hl => match us, hl with | [_, _], _ => rfl) (fun vs H Q E h => ?_) (fun cdv A outer s H vs Q E hr h => ?_)
  · obtain ⟨_, _, _, _, _, _, _, _, _, _, rfl, _⟩ := h
    rfl
  · obtain ⟨p, d, a, l, nx, rd, f, s, L, c, rfl, ⟨dx, hp⟩, hD, R, ⟨as, hl, pL⟩, ne, hc, hL, k⟩ := h
    obtain ⟨da, ha⟩ := id hD
    have := R.f1; have := R.f2; have := R.s1; have := R.s2
    have lenL : as.length = L.length := Paired.length pL
    refine ⟨_, (pss_cons (ps_asg (pm (pe_fld (pv 0) rfl) T.c_Drum T.t_Drum_where (ok_Drum_where T) hr (pa_cons (pv 1) pa_nil)) (pg_tup (by rfl) (pgs_cons (pg_name (i := 2) sc_Rolling_under.nd rfl (.inl rfl)) (pgs_cons (pg_name (i := 3) sc_Rolling_under.nd rfl (.inl rfl)) (pgs_cons (pg_name (i := 4) sc_Rolling_under.nd rfl (.inl rfl)) pgs_nil))))) (pss_cons (ps_if (pt_cmpR op_eq (pv 2) pe_int (nomark _)) (pss_one (ps_ret (pe_lst (pa_cons (pe_tup (pa_cons pe_str (pa_cons (pe_fld (pv 0) rfl) (pa_cons (pv 3) (pa_cons pe_str pa_nil))))) pa_nil)))) pss_nil) (pss_cons (ps_set (i := 5) sc_Rolling_under.nd rfl (.inl rfl) (pe_op op_sub (pv 4) (pm0 (pe_fld (pv 0) rfl) T.c_Drum T.t_Drum_step (ok_Drum_step T) hr))) (pss_cons (ps_set (i := 6) sc_Rolling_under.nd rfl (.inr rfl) (pe_op op_sub (pe_op op_sub (pv 1) (pv 3)) (pv 5))) (pss_cons (ps_set (i := 7) sc_Rolling_under.nd rfl (.inl rfl) (pe_op op_fdivN (pe_op op_mul (pv 3) (pv 5)) (pv 4))) (pss_cons (ps_set (i := 8) sc_Rolling_under.nd rfl (.inl rfl) (pe_op op_fdivN (pe_op op_sub (pe_op op_mul (pe_op op_add (pv 3) pe_int) (pv 5)) pe_int) (pv 4))) (pss_one (ps_ret (pe_lc (own := [("k", 9)]) (g := (gName 9)) rfl sc_Rolling_under.nd (pi_range2 (by rfl) T.n_range (pa_cons (pv 7) (pa_cons (pe_op op_add (pv 8) pe_int) pa_nil))) (blkOk_by (own := [("k", 9)]) (N := ["self", "place", "turn", "at", "size", "less", "begin", "low", "high", "k"]) (sc := (defScope s_Rolling_under)) (by decide +kernel)) (fun _ _ _ _ _ => (pg_name (i := 9) sc_Rolling_under.nd rfl (.inl rfl))) (fun _ _ _ _ _ => pts_nil) (fun _ _ _ _ _ => (pe_ix (ix_tupK K) (pe_ix (ix_listK K) (pe_ix (ix_listK K) (pe_fldK K (pv 0) rfl) (pe_op op_add (pv 6) (pv 9)) (fun _ _ => rfl)) (pe_un un_neg pe_int) (fun _ _ => rfl)) pe_int (fun _ _ => rfl)))))))))))), ?_⟩
    refine ⟨_, rfl, p, _, dx, _, _, rfl, hp, T.c_Rolling, T.a_Rolling_roller, r_a, a, da, _, rfl, ha, nFst (by decide +kernel) (by decide +kernel), _, rfl, a, f, s, c, rfl, hD, R, by omega, by omega, fun t q ht hq => ?_⟩
    refine ⟨q, _, rfl, SqT.of upd_same, rfl, _, _, rfl, _, _, rfl, _, _, rfl, rfl, ?_⟩
    have s1 : Same H (upd H q (.tup [.int t, .int (c - bgn f s t), .int (f + t * s)])) := Same.new hq
    generalize upd H q (.tup [.int t, .int (c - bgn f s t), .int (f + t * s)]) = H1 at s1 ⊢
    have hu : underOf d f s L c = underT d f s L c t := by
      unfold underOf
      rw [turnOf_eq R.f1 R.s1 ht]
    have hp1 := s1 _ _ hp
    refine ⟨_, rfl, rfl, _, rfl, ifd (fun e => ?_) fun e => ?_⟩
    · have e : t = 0 := by injection e
      subst e
      refine ⟨_, rfl, p, _, dx, _, _, rfl, hp1, T.c_Rolling, T.a_Rolling_drum_at, r_d, _, rfl, by show 4 ≤ sizeLine; decide, fun u hu1 => ⟨by show 1 ≤ sizeLine; decide, fun l' hl' => k _ l' ((s1.trans (Same.new hu1)).trans (Same.new hl')) (s1.free ((Same.new hu1).free hl')) ⟨[u], upd_same, ?_⟩⟩⟩
      rw [hu]
      exact .cons (kept upd_same hl') .nil
    · have e : t ≠ 0 := fun z => e (by rw [z])
      obtain ⟨b1, b2, b3, b4, b5, b6, b7, b8⟩ := under_bd R.f1 R.s1 ht e
      have ht0 := ht.nn
      have hlo := ht.lo
      refine ⟨_, rfl, _, rfl, p, _, dx, _, _, rfl, hp1, T.c_Rolling, T.a_Rolling_roller, r_a, a, da, _, rfl, s1 _ _ ha, nFst (by decide +kernel) (by decide +kernel), a, f, s, rfl, ⟨da, s1 _ _ ha⟩, _, _, rfl, rfl, ?_⟩
      refine ⟨_, rfl, _, rfl, _, _, rfl, rfl, _, rfl, _, _, rfl, rfl, ?_⟩
      refine ⟨_, rfl, _, rfl, _, _, rfl, rfl, .inl ⟨by omega, by omega⟩, _, rfl, _, _, rfl, rfl, ⟨by omega, by omega⟩, ?_⟩
      refine ⟨_, rfl, _, _, rfl, rfl, _, rfl, _, _, rfl, rfl, .inl ⟨by omega, by omega⟩, _, _, rfl, rfl, _, rfl, _, _, rfl, rfl, ⟨by omega, by omega⟩, ?_⟩
      have hlow : ((↑c - bgn f s t) * (f + t * s - s)).fdiv (f + t * s) ≤ f + t * s - s := by
        rw [fdiv_pos b1]
        refine Int.le_of_lt (Int.ediv_lt_of_lt_mul b1 ?_)
        rw [Int.mul_comm]
        exact Int.mul_lt_mul_of_pos_left b7 (by omega)
      have hu2 : underOf d f s L c = (List.range (((((↑c - bgn f s t) + 1) * (f + t * s - s) - 1).fdiv (f + t * s)) + 1 - ((↑c - bgn f s t) * (f + t * s - s)).fdiv (f + t * s)).toNat).map fun (k : Nat) => topF (L.getD (↑c - (↑c - bgn f s t) - (f + t * s - s) + (((↑c - bgn f s t) * (f + t * s - s)).fdiv (f + t * s) + (k : Nat))).toNat []) := by
        rw [hu]
        unfold underT
        rw [if_neg e]
      have hhi : -1 ≤ (((↑c - bgn f s t) + 1) * (f + t * s - s) - 1).fdiv (f + t * s) := by
        rw [fdiv_pos b1]
        have h1 : 0 ≤ ((↑c - bgn f s t) + 1) * (f + t * s - s) := Int.mul_nonneg (by omega) (by omega)
        have h2 := Int.ediv_le_ediv b1 (show (-1 : Int) ≤ ((↑c - bgn f s t) + 1) * (f + t * s - s) - 1 by omega)
        have h3 : -1 ≤ (-1 : Int) / (f + t * s) := by
          rw [Int.le_ediv_iff_mul_le b1]
          omega
        omega
      refine ⟨_, rfl, _, rfl, _, _, rfl, rfl, _, _, rfl, ?_⟩
      generalize hlw : ((↑c - bgn f s t) * (f + t * s - s)).fdiv (f + t * s) = low at b3 hlow hu2 ⊢
      generalize hhg : (((↑c - bgn f s t) + 1) * (f + t * s - s) - 1).fdiv (f + t * s) = high at b4 hhi hu2 ⊢
      generalize hbg : (↑c : Int) - (↑c - bgn f s t) - (f + t * s - s) = beg at b5 hu2 ⊢
      refine ⟨by omega, fun D hD1 => ?_⟩
      refine lc_it walk_range (fun j H' => Same H1 H' ∧ ∃ bs, H' D = some (.lst (bs.map V.ref)) ∧ TupsAt H' bs ((List.range j).map fun (k : Nat) => topF (L.getD (beg + (low + (k : Nat))).toNat [])) ∧ bs.length = j) ⟨Same.new hD1, [], upd_same, .nil, rfl⟩ (fun _ _ _ _ => trivial) ?_ ?_
      · rintro j x H2 H3 hj ⟨s2, bs, hbs, tb, lb⟩ ⟨rfl, rfl⟩
        have s3 := s1.trans s2
        have hi : (beg + (low + (j : Nat))).toNat < L.length := by omega
        have ei : (((beg + (low + (j : Nat))).toNat : Nat) : Int) = beg + (low + (j : Nat)) := Int.toNat_of_nonneg (by omega)
        have nel := ne _ hi
        generalize hii : (beg + (low + (j : Nat))).toNat = i at hi ei nel
        rw [List.getD_eq_getElem?_getD, List.getElem?_eq_getElem hi] at nel
        have ea : as[i]? = some as[i] := List.getElem?_eq_getElem (by omega)
        obtain ⟨X, e2, pX⟩ := paired_get pL ea
        have eX : L[i] = X := by
          rw [List.getElem?_eq_getElem hi] at e2
          exact Option.some.inj e2
        rw [eX] at nel
        obtain ⟨qs, hq1, pq⟩ := pX
        obtain ⟨qs', q', X', x, e3, e4, u, v, hq2, hu1, hv1⟩ := paired_last pq (by exact nel)
        subst e3
        have atl : atI (as.map V.ref) (beg + (low + (j : Nat))) = some (.ref as[i]) := by
          rw [← ei]
          refine atI_nat ?_
          rw [List.getElem?_map, ea]
          rfl
        have hq1' : H3 as[i] = some (.lst (qs'.map V.ref ++ [.ref q'])) := by
          have := s3 _ _ hq1
          rw [List.map_append] at this
          exact this
        refine ⟨rfl, _, rfl, p, _, dx, _, _, rfl, s2 _ _ hp1, T.c_Rolling, T.a_Rolling_layers, r_l, _, rfl, _, rfl, _, _, rfl, rfl, l, _, _, V.ref as[i], rfl, rfl, SqL.of (s3 _ _ hl), (by rw [hbg]; exact atl), 1, rfl, as[i], _, -1, _, rfl, rfl, SqL.of hq1', atI_last _ _, q', _, 1, _, rfl, rfl, SqT.of (s3 _ _ hq2), rfl, _, hbs, by rw [List.length_map, lb]; exact small1000 (by omega), ?_⟩
        refine ⟨s2.over hD1, bs ++ [v], by rw [upd_same, List.map_append]; rfl, ?_, by rw [List.length_append, lb]; rfl⟩
        rw [List.range_succ, List.map_append]
        refine (tb.tk (TK.lst hbs)).snoc ?_
        show TupF _ v (topF (L.getD (beg + (low + (j : Nat))).toNat []))
        rw [hii, List.getD_eq_getElem?_getD, e2]
        show TupF _ v (topF X)
        rw [e4, topF_last]
        exact TK.lst hbs _ _ (s3 _ _ hv1)
      · rintro H2 ⟨s2, bs, hbs, tb, lb⟩
        refine k H2 D (s1.trans s2) (s1.free hD1) ⟨bs, hbs, ?_⟩
        rw [hu2]
        exact tb
end
end Wm
end
section
set_option Elab.async false
set_option linter.all false
set_option maxRecDepth 100000
set_option maxHeartbeats 4000000
/-! The pairs: walked. -/
namespace Wm
open PySem PySem.Spec PyProof.Rows L2 WmM
set_option autoImplicit false
theorem small9 {n : Nat} (h : n ≤ 9000) : n < sizeLine := Nat.lt_of_le_of_lt h (by decide)
theorem cut1 (xs : List V) : cutV xs (some 1) none = xs.drop 1 := by
  show (xs.drop (min 1 xs.length)).take (xs.length - min 1 xs.length) = xs.drop 1
  cases xs with
  | nil => rfl
  | cons x xs =>
    have e : min 1 (x :: xs).length = 1 := Nat.min_eq_left (by simp)
    rw [e]
    show xs.take ((x :: xs).length - 1) = xs
    simp
theorem paired_refs {β : Type} {R : Addr → β → Prop} : ∀ {ys : List V} {bs : List β}, Paired (fun v b => ∃ q, v = V.ref q ∧ R q b) ys bs → ∃ qs, ys = qs.map V.ref ∧ Paired R qs bs
  | _, _, .nil => ⟨[], rfl, .nil⟩
  | _, _, .cons ⟨q, e, r⟩ t => by
    obtain ⟨qs, e2, r2⟩ := paired_refs t
    exact ⟨q :: qs, by rw [e, e2]; rfl, .cons r r2⟩
theorem refs_paired {β : Type} {R : Addr → β → Prop} {qs : List Addr} {bs : List β} (h : Paired R qs bs) : Paired (fun v b => ∃ q, v = V.ref q ∧ R q b) (qs.map V.ref) bs := paired_map (fun a b r => ⟨a, rfl, r⟩) h
theorem layer_len {S : Shp} {ps : List Ply} (h : ps.length ≤ 3) (i : Nat) : (layerAt S ps i).length ≤ 3 := Nat.le_trans (List.length_filterMap_le _ _) h
theorem steps2_len (l : List (Fc × Fc)) : (steps2 l).length ≤ l.length := by
  unfold steps2
  rw [List.length_map, List.length_zip]
  omega
theorem steps2_at {l : List (Fc × Fc)} {m : Nat} {x y : Fc × Fc} (h1 : l[m]? = some x) (h2 : l[m + 1]? = some y) : (steps2 l)[m]? = some (x.2, y.1) := by
  unfold steps2
  have e : (l.zip l.tail)[m]? = some (x, y) := by
    rw [List.getElem?_zip_eq_some]
    exact ⟨h1, by rw [List.getElem?_tail]; exact h2⟩
  rw [List.getElem?_map, e]
  rfl
def mmF (p : Fc × Fc) : Fc × Fc := (minF p.1 p.2, maxF p.1 p.2)
def sp_Rolling_pairs (K : PySem.W.Frag) : Sp := fun vs H Q _ => ∃ (p : Addr) (d : Int) (a l nx rd : Addr) (S : Shp) (ps : List Ply), vs = [.ref p] ∧ RollO K H p d a l nx rd ∧ DrumAt K H a (S.ds.getD d.toNat (0, 0)).1 (S.ds.getD d.toNat (0, 0)).2 ∧ ShpOk S ∧ PliesOk S ps ∧ 0 ≤ d ∧ d < S.ds.length ∧ LayersAt H l (layersOf S ps) ∧
  ∀ H' l' prs, Same H H' → H l' = none → PairsL H' l' prs → prs.length ≤ 2000 → (∀ f g, ((f, g) ∈ prs ∨ (g, f) ∈ prs) ↔ AdjOf S d ps f g) → (∀ p ∈ prs, p.1 ∈ facesOf S ∧ p.2 ∈ facesOf S) → Q (.ref l') H'
section
variable {P : Program} {w : World} {K : PySem.W.Frag} {mg : Str → Option Value} {base : Heap}
theorem ok_Rolling_pairs (T : Tx K mg) : Dn P w K mg base 6 (He.ma K (He.ga K "Rolling") "pairs") ["self"] (sp_Rolling_pairs K) := by
  refine dn_of T.F_Rolling_pairs sc_Rolling_pairs (fun _ _ _ _ _ _ us hl => match us, hl with | [_], _ => rfl) (fun vs H Q E h => ?_) (fun cdv A outer s H vs Q E hr h => ?_)
  · obtain ⟨_, _, _, _, _, _, _, _, rfl, _⟩ := h
    rfl
  · obtain ⟨p, d, a, l, nx, rd, S, ps, rfl, hR, hD, O, OP, d0, d1, hL, k⟩ := h
    obtain ⟨dx, hp⟩ := id hR
    obtain ⟨as, hl, pL⟩ := id hL
    have R := O.dr _ (getD_mem (d := ((0, 0) : Int × Int)) (show d.toNat < S.ds.length by omega))
    have lenL : as.length = (layersOf S ps).length := Paired.length pL
    have m40 := most_le O OP.ok
    have len40 : (layersOf S ps).length ≤ 40 := by rw [layers_len]; omega
    refine ⟨_, (pss_cons (ps_set (i := 1) sc_Rolling_pairs.nd rfl (.inl rfl) (pe_lst pa_nil)) (pss_cons (ps_for PassesOwn.never rfl (pi_enum (by rfl) T.n_enumerate (pa_cons (pe_fld (pv 0) rfl) pa_nil)) (pg_tup (by rfl) (pgs_cons (pg_name (i := 2) sc_Rolling_pairs.nd rfl (.inl rfl)) (pgs_cons (pg_name (i := 3) sc_Rolling_pairs.nd rfl (.inr rfl)) pgs_nil))) (pss_cons (ps_for PassesOwn.never rfl (pi_zipF (by rfl) T.n_zip (pa_cons (pv 3) (pa_cons (pe_slice sl_list (pv 3) (po_some pe_int) po_none) pa_nil))) (pg_tup (by rfl) (pgs_cons (pg_name (i := 4) sc_Rolling_pairs.nd rfl (.inl rfl)) (pgs_cons (pg_name (i := 5) sc_Rolling_pairs.nd rfl (.inl rfl)) pgs_nil))) (pss_one (ps_expr (pe_bm PySem.F.plainAttrs_list PySem.F.slot_list_append PySem.F.type_list_append mt_append (pv 1) (pa_cons (pe_tup (pa_cons (pe_ix ix_tup (pv 4) pe_int (fun _ _ => rfl)) (pa_cons (pe_ix ix_tup (pv 5) pe_int (fun _ _ => rfl)) pa_nil))) pa_nil))))) (pss_one (ps_expr (pe_bm PySem.F.plainAttrs_list PySem.F.slot_list_extend PySem.F.type_list_extend mt_extend (pv 1) (pa_cons (pe_lc (own := [("face", 6)]) (g := (gName 6)) rfl sc_Rolling_pairs.nd (pi_list (pm (pv 0) T.c_Rolling T.t_Rolling_under (ok_Rolling_under T) hr (pa_cons (pv 2) pa_nil))) (blkOk_by (own := [("face", 6)]) (N := ["self", "found", "place", "faces", "inner", "outer", "face", "one", "other"]) (sc := (defScope s_Rolling_pairs)) (by decide +kernel)) (fun _ _ _ _ _ => (pg_name (i := 6) sc_Rolling_pairs.nd rfl (.inl rfl))) (fun _ _ _ _ _ => pts_nil) (fun _ _ _ _ _ => (pe_tup (pa_cons (pv 6) (pa_cons (pe_ix (ix_tupK K) (pe_ix (ix_listK K) (pv 3) pe_int (fun _ _ => rfl)) pe_int (fun _ _ => rfl)) pa_nil))))) pa_nil)))))) (pss_one (ps_ret (pe_callB (cr_srt (enc := pairD) hr.units) (by rfl) T.n_sorted (by decide +kernel) (pa_cons (pe_lc (own := [("one", 7), ("other", 8)]) (g := (gTup K 2 (gCons (gName 7) (gCons (gName 8) gNil)))) rfl sc_Rolling_pairs.nd (pi_list (pv 1)) (blkOk_by (own := [("one", 7), ("other", 8)]) (N := ["self", "found", "place", "faces", "inner", "outer", "face", "one", "other"]) (sc := (defScope s_Rolling_pairs)) (by decide +kernel)) (fun _ _ _ _ _ => (pg_tup (by rfl) (pgs_cons (pg_name (i := 7) sc_Rolling_pairs.nd rfl (.inl rfl)) (pgs_cons (pg_name (i := 8) sc_Rolling_pairs.nd rfl (.inl rfl)) pgs_nil)))) (fun _ _ _ _ _ => pts_nil) (fun _ _ _ _ _ => (pe_tup (pa_cons (pe_callB (cr_min2K K rfl hr.units) (by rfl) T.n_min (by decide +kernel) (pa_cons (pv 7) (pa_cons (pv 8) pa_nil))) (pa_cons (pe_callB (cr_max2K K rfl hr.units) (by rfl) T.n_max (by decide +kernel) (pa_cons (pv 7) (pa_cons (pv 8) pa_nil))) pa_nil))))) pa_nil)))))), ?_⟩
    refine ⟨Nat.zero_le _, fun l0 hl0 => ?_⟩
    refine ⟨_, rfl, p, _, dx, _, _, rfl, kept hp hl0, T.c_Rolling, T.a_Rolling_layers, r_l, l, _, rfl, SqL.of (kept hl hl0), ?_⟩
    refine for_it walk_enumF (fun i σ H' => (∃ x1 x2 x3 x4 x5 x6 x7, σ = [some (.ref p), some (.ref l0), x1, x2, x3, x4, x5, x6, x7]) ∧ Same H H' ∧ ∃ qs, H' l0 = some (.lst (qs.map V.ref)) ∧ PairsAt H' qs ((List.range i).flatMap (placeOf d (S.ds.getD d.toNat (0, 0)).1 (S.ds.getD d.toNat (0, 0)).2 (layersOf S ps))) ∧ qs.length ≤ 44 * i)
      ⟨⟨_, _, _, _, _, _, _, rfl⟩, Same.new hl0, [], upd_same, .nil, Nat.le_refl _⟩ (fun i σ H' _ q => SqL.of (q.2.1 _ _ hl)) ?_ ?_
    · rintro i x σ H1 H2 hi ⟨⟨x1, x2, x3, x4, x5, x6, x7, rfl⟩, s1, qs, hqs, pq, lq⟩ ⟨t, ai, e2, rfl, ht, rfl⟩
      obtain ⟨X, e3, pX⟩ := paired_get pL e2
      have hi2 : i < (layersOf S ps).length := by omega
      have eX : X = layerAt S ps i := by
        have := layers_at hi2
        rw [List.getD_eq_getElem?_getD, e3] at this
        exact this
      have s2 : Same H (upd H1 t (.tup [.int (i : Nat), .ref ai])) := s1.over (s1.free ht)
      have hqs2 : upd H1 t (.tup [.int (i : Nat), .ref ai]) l0 = some (.lst (qs.map V.ref)) := kept hqs ht
      have pq2 := pq.tk (TK.new (o := .tup [.int (i : Nat), .ref ai]) ht)
      refine ⟨t, _, rfl, SqT.of upd_same, rfl, _, _, rfl, _, _, rfl, rfl, ?_⟩
      generalize upd H1 t (.tup [.int (i : Nat), .ref ai]) = H2 at s2 hqs2 pq2 ⊢
      have lX : X.length ≤ 3 := by rw [eX]; exact layer_len OP.l2 i
      have nX : X ≠ [] := by rw [eX]; exact layer_ne hi2
      obtain ⟨us, hus, pu⟩ := pX.kn (Kn.same s2)
      have lus : us.length = X.length := Paired.length pu
      refine ⟨_, rfl, _, rfl, 1, rfl, ai, _, rfl, SqL.of hus, fun z hz => ?_⟩
      rw [cut1]
      have s3 : Same H (upd H2 z (.lst ((us.map V.ref).drop 1))) := s2.over (s2.free hz)
      have hz3 : upd H2 z (.lst ((us.map V.ref).drop 1)) z = some (.lst ((us.map V.ref).drop 1)) := upd_same
      have hus3 : upd H2 z (.lst ((us.map V.ref).drop 1)) ai = some (.lst (us.map V.ref)) := kept hus hz
      have hqs3 : upd H2 z (.lst ((us.map V.ref).drop 1)) l0 = some (.lst (qs.map V.ref)) := kept hqs2 hz
      have pq3 := pq2.tk (TK.new (o := .lst ((us.map V.ref).drop 1)) hz)
      have pu3 := PairsAt.tk (TK.new (o := .lst ((us.map V.ref).drop 1)) hz) pu
      have nz : l0 ≠ z := ne_of_none hqs2 hz
      have nai : ai ≠ l0 := by
        obtain ⟨_, h', _⟩ := id pX
        exact ne_of_none h' hl0
      generalize upd H2 z (.lst ((us.map V.ref).drop 1)) = H3 at s3 hz3 hus3 hqs3 pq3 pu3 ⊢
      refine ⟨ai, z, _, _, rfl, SqL.of hus3, SqL.of hz3, for_it (walk_zip rfl) (fun m σ H' => (∃ x3 x4 x5 x6 x7, σ = [some (.ref p), some (.ref l0), some (.int i), some (.ref ai), x3, x4, x5, x6, x7]) ∧ Same H H' ∧ H' ai = some (.lst (us.map V.ref)) ∧ H' z = some (.lst ((us.map V.ref).drop 1)) ∧ PairsAt H' us X ∧ ∃ vs, H' l0 = some (.lst (vs.map V.ref)) ∧ PairsAt H' vs ((List.range i).flatMap (placeOf d (S.ds.getD d.toNat (0, 0)).1 (S.ds.getD d.toNat (0, 0)).2 (layersOf S ps)) ++ (steps2 X).take m) ∧ vs.length ≤ 44 * i + m)
        ⟨⟨_, _, _, _, _, rfl⟩, s3, hus3, hz3, pu3, qs, hqs3, by simpa using pq3, lq⟩ (fun m σ H' _ q => ⟨SqL.of q.2.2.1, SqL.of q.2.2.2.1⟩) ?_ ?_⟩
      · rintro m x σ H4 H5 hm ⟨⟨x3, x4, x5, x6, x7, rfl⟩, s4, hus4, hz4, pu4, vs, hvs, pv4, lv⟩ ⟨r, y1, y2, rfl, hr0, rfl, ey1, ey2⟩
        rw [List.length_drop, List.length_map] at hm
        have e1 : us[m]? = some us[m] := List.getElem?_eq_getElem (by omega)
        have e2' : us[m + 1]? = some us[m + 1] := List.getElem?_eq_getElem (by omega)
        have ey1 : y1 = .ref us[m] := by
          have q : (us.map V.ref)[m]? = some y1 := ey1
          rw [List.getElem?_map, e1] at q
          exact (Option.some.inj q).symm
        have ey2 : y2 = .ref us[m + 1] := by
          have q : ((us.map V.ref).drop 1)[m]? = some y2 := ey2
          rw [List.getElem?_drop, List.getElem?_map, Nat.add_comm, e2'] at q
          exact (Option.some.inj q).symm
        subst ey1
        subst ey2
        obtain ⟨fg1, g1, a1, b1, h1, h1a, h1b⟩ := paired_get pu4 e1
        obtain ⟨fg2, g2, a2, b2, h2, h2a, h2b⟩ := paired_get pu4 e2'
        have hst := steps2_at g1 g2
        refine ⟨r, _, rfl, SqT.of upd_same, rfl, _, _, rfl, _, _, rfl, rfl, ?_⟩
        have sR : Same H4 (upd H4 r (.tup [.ref us[m], .ref us[m + 1]])) := Same.new hr0
        generalize upd H4 r (.tup [.ref us[m], .ref us[m + 1]]) = H6 at sR ⊢
        refine ⟨_, rfl, .inl ⟨rfl, _, SqL.of (sR _ _ hvs)⟩, _, rfl, us[m], _, 1, _, rfl, rfl, SqT.of (sR _ _ h1), rfl, _, rfl, us[m + 1], _, 0, _, rfl, rfl, SqT.of (sR _ _ h2), rfl, by show 2 ≤ sizeLine; decide, fun q hq => ⟨l0, _, _, rfl, rfl, kept (sR _ _ hvs) hq, by rw [List.length_map]; exact small9 (by omega), ?_⟩⟩
        have s7 : Same H4 (upd H6 q (.tup [.ref b1, .ref a2])) := sR.over (sR.free hq)
        have hv7 : upd H6 q (.tup [.ref b1, .ref a2]) l0 = some (.lst (vs.map V.ref)) := kept (sR _ _ hvs) hq
        have hq7 : upd H6 q (.tup [.ref b1, .ref a2]) q = some (.tup [.ref b1, .ref a2]) := upd_same
        generalize upd H6 q (.tup [.ref b1, .ref a2]) = H7 at s7 hv7 hq7 ⊢
        have nz' : z ≠ l0 := nz.symm
        refine ⟨⟨_, _, _, _, _, rfl⟩, fun b o e => ?_, by rw [upd_ne nai]; exact s7 _ _ hus4, by rw [upd_ne nz']; exact s7 _ _ hz4, (pu4.tk (TK.same s7)).tk (TK.lst hv7), vs ++ [q], by rw [upd_same, List.map_append]; rfl, ?_, by rw [List.length_append]; simp; omega⟩
        · rw [upd_ne (ne_of_none e hl0)]
          exact s7 _ _ (s4 _ _ e)
        · rw [List.take_add_one, hst, ← List.append_assoc]
          refine ((pv4.tk (TK.same s7)).tk (TK.lst hv7)).snoc ⟨b1, a2, TK.lst hv7 _ _ hq7, TK.lst hv7 _ _ (s7 _ _ h1b), TK.lst hv7 _ _ (s7 _ _ h2a)⟩
      · rintro σ H4 ⟨⟨x3, x4, x5, x6, x7, rfl⟩, s4, hus4, hz4, pu4, vs, hvs, pv4, lv⟩
        have hlen : (min (us.map V.ref).length ((us.map V.ref).drop 1).length) = (steps2 X).length := by
          simp [steps2, lus]
        rw [hlen, List.take_length] at pv4
        rw [hlen] at lv
        have ls2 := steps2_len X
        refine ⟨_, rfl, .inl ⟨rfl, _, SqL.of hvs⟩, ?_⟩
        have hne : ∀ j, j < (layersOf S ps).length → (layersOf S ps).getD j [] ≠ [] := fun j hj => by rw [layers_at hj]; exact layer_ne hj
        refine ⟨_, rfl, p, dx, _, rfl, s4 _ _ hp, r_no (by decide +kernel) (by decide +kernel) (by decide +kernel) (by decide +kernel) (by decide +kernel), _, rfl, p, d, a, l, nx, rd, _, _, _, i, rfl, ⟨dx, s4 _ _ hp⟩, (let ⟨y, h⟩ := hD; ⟨y, s4 _ _ h⟩), R, hL.kn (Kn.same s4), hne, hi2, len40, fun H5 lu s5 hlu ⟨ws, hws, pw⟩ => ?_⟩
        have lw : ws.length ≤ 41 := by
          have := Paired.length pw
          rw [this]
          exact under_len R (by omega)
        refine ⟨lu, rfl, ⟨_, SqL.of hws⟩, fun D hD5 => ?_⟩
        obtain ⟨fg0, X', eX0⟩ : ∃ x X', X = x :: X' := by
          cases X with
          | nil => exact absurd rfl nX
          | cons x X' => exact ⟨_, _, rfl⟩
        have hus0 : 0 < us.length := by rw [lus, eX0]; simp
        have e0 : us[0]? = some us[0] := List.getElem?_eq_getElem hus0
        obtain ⟨fg, g0, a0, b0, h0, h0a, h0b⟩ := paired_get pu4 e0
        have eb : botF X = fg.1 := by
          rw [eX0] at g0 ⊢
          cases g0
          rfl
        refine lc_it walk_listF (fun j H' => Same H5 H' ∧ ∃ cs, H' D = some (.lst (cs.map V.ref)) ∧ PairsAt H' cs (((underOf d (S.ds.getD d.toNat (0, 0)).1 (S.ds.getD d.toNat (0, 0)).2 (layersOf S ps) i).take j).map fun u => (u, botF X)) ∧ cs.length = j) ⟨Same.new hD5, [], upd_same, .nil, rfl⟩ (fun j H' _ q => SqL.of (q.1 _ _ hws)) ?_ ?_
        · rintro j x H6 H7 hj ⟨s6, cs, hcs, pc, lc⟩ ⟨rfl, u, e4, rfl⟩
          obtain ⟨uf, e5, hu⟩ := paired_get pw e4
          have s56 := s5.trans s6
          refine ⟨rfl, _, rfl, _, rfl, ai, _, 0, _, rfl, rfl, SqL.of (s56 _ _ hus4), atI_nat (j := 0) (by rw [List.getElem?_map, e0]; rfl), us[0], _, 0, _, rfl, rfl, SqT.of (s56 _ _ h0), rfl, by show 2 ≤ sizeLine; decide, fun q hq => ⟨_, kept hcs hq, by rw [List.length_map, lc]; exact small9 (by omega), ?_⟩⟩
          have hc8 : upd H7 q (.tup [.ref u, .ref a0]) D = some (.lst (cs.map V.ref)) := kept hcs hq
          refine ⟨(s6.over (s6.free hq)).over hD5, cs ++ [q], by rw [upd_same, List.map_append]; rfl, ?_, by rw [List.length_append, lc]; rfl⟩
          rw [List.take_add_one, e5, List.map_append]
          refine ((pc.tk (TK.new hq)).tk (TK.lst hc8)).snoc ⟨u, a0, ?_, TK.lst hc8 _ _ (TK.new hq _ _ (s6 _ _ hu)), ?_⟩
          · rw [upd_ne (ne_of_none hcs hq).symm, upd_same]
          · show TupF _ a0 (botF X)
            rw [eb]
            exact TK.lst hc8 _ _ (TK.new hq _ _ (s56 _ _ h0a))
        · rintro H6 ⟨s6, cs, hcs, pc, lc⟩
          have lwu : ws.length = (underOf d (S.ds.getD d.toNat (0, 0)).1 (S.ds.getD d.toNat (0, 0)).2 (layersOf S ps) i).length := Paired.length pw
          rw [lwu, List.take_length] at pc
          have s56 := s5.trans s6
          have hl6 := s56 _ _ hvs
          have ix : i < 40 := by omega
          refine ⟨l0, D, _, _, rfl, rfl, hl6, hcs, by rw [List.length_map, List.length_map]; exact Nat.le_of_lt (small9 (by omega)), ?_⟩
          refine ⟨⟨_, _, _, _, _, _, _, rfl⟩, fun b o e => ?_, vs ++ cs, by rw [upd_same, List.map_append], ?_, by rw [List.length_append]; omega⟩
          · rw [upd_ne (ne_of_none e hl0)]
            exact s56 _ _ (s4 _ _ e)
          · rw [List.range_succ, List.flatMap_append, List.flatMap_singleton]
            unfold placeOf
            rw [layers_at hi2, ← eX]
            rw [← List.append_assoc]
            exact paired_app ((pv4.tk (TK.same s56)).tk (TK.lst hl6)) (pc.tk (TK.lst hl6))
    · rintro σ H1 ⟨⟨x1, x2, x3, x4, x5, x6, x7, rfl⟩, s1, qs, hqs, pq, lq⟩
      rw [lenL] at pq
      change PairsAt H1 qs (foundOf S d ps) at pq
      have lF : qs.length = (foundOf S d ps).length := Paired.length pq
      have hin : ∀ x ∈ foundOf S d ps, x.1 ∈ facesOf S ∧ x.2 ∈ facesOf S := fun x hx => found_in O d0 d1 OP.ok (fun c => turn_ex R.f1 R.s1 c) hx
      have hsh : ∀ x ∈ foundOf S d ps, Shap x.1 ∧ Shap x.2 := fun x hx => ⟨shap_in (hin x hx).1, shap_in (hin x hx).2⟩
      have lq2 : qs.length ≤ 2000 := by omega
      refine ⟨_, rfl, l0, rfl, ⟨_, SqL.of hqs⟩, fun D hD1 => ?_⟩
      refine lc_it walk_listF (fun j H' => Same H1 H' ∧ ∃ cs, H' D = some (.lst (cs.map V.ref)) ∧ PairsAt H' cs (((foundOf S d ps).take j).map mmF) ∧ cs.length = j) ⟨Same.new hD1, [], upd_same, .nil, rfl⟩ (fun j H' _ q => SqL.of (q.1 _ _ hqs)) ?_ ?_
      · rintro j x H2 H3 hj ⟨s2, cs, hcs, pc, lc⟩ ⟨rfl, q, e2, rfl⟩
        obtain ⟨fg, e3, a1, b1, h1, h1a, h1b⟩ := paired_get pq e2
        obtain ⟨sh1, sh2⟩ := hsh fg (List.mem_of_getElem? e3)
        have fa := s2 _ _ h1a
        have fb := s2 _ _ h1b
        refine ⟨q, _, rfl, SqT.of (s2 _ _ h1), rfl, _, _, rfl, _, _, rfl, rfl, rfl, ?_⟩
        refine ⟨_, rfl, _, rfl, _, _, _, _, rfl, two_face fa fb sh1 sh2, _, rfl, _, rfl, _, _, _, _, rfl, two_face fa fb sh1 sh2, by show 2 ≤ sizeLine; decide, fun r hr => ⟨_, kept hcs hr, by rw [List.length_map, lc]; exact small9 (by omega), ?_⟩⟩
        generalize ht : ([if PySem.W.dataLt (faceD fg.2) (faceD fg.1) = true then V.ref b1 else V.ref a1, if PySem.W.dataLt (faceD fg.1) (faceD fg.2) = true then V.ref b1 else V.ref a1] : List V) = tt
        have hc4 : upd H3 r (.tup tt) D = some (.lst (cs.map V.ref)) := kept hcs hr
        refine ⟨(s2.over (s2.free hr)).over hD1, cs ++ [r], by rw [upd_same, List.map_append]; rfl, ?_, by rw [List.length_append, lc]; rfl⟩
        rw [List.take_add_one, e3, List.map_append]
        have k4 : TK H3 (upd (upd H3 r (.tup tt)) D (.lst (cs.map V.ref ++ [V.ref r]))) := (TK.new hr).trans (TK.lst hc4)
        have hr4 : upd (upd H3 r (.tup tt)) D (.lst (cs.map V.ref ++ [V.ref r])) r = some (.tup tt) := by rw [upd_ne (ne_of_none hcs hr).symm, upd_same]
        refine (pc.tk k4).snoc ?_
        unfold mmF minF maxF
        cases e5 : PySem.W.dataLt (faceD fg.2) (faceD fg.1) with
        | true =>
          rw [e5, face_asym e5] at ht
          rw [face_asym e5]
          subst ht
          exact ⟨b1, a1, hr4, k4 _ _ fb, k4 _ _ fa⟩
        | false =>
          cases e6 : PySem.W.dataLt (faceD fg.1) (faceD fg.2) with
          | true =>
            rw [e5, e6] at ht
            subst ht
            exact ⟨a1, b1, hr4, k4 _ _ fa, k4 _ _ fb⟩
          | false =>
            rw [e5, e6] at ht
            subst ht
            exact ⟨a1, a1, hr4, k4 _ _ fa, k4 _ _ fa⟩
      · rintro H2 ⟨s2, cs, hcs, pc, lc⟩
        rw [lF, List.take_length] at pc
        have hm : ∀ y ∈ (foundOf S d ps).map mmF, (y ∈ foundOf S d ps ∨ (y.2, y.1) ∈ foundOf S d ps) := fun y hy => by
          obtain ⟨x, hx, rfl⟩ := List.mem_map.mp hy
          obtain ⟨sh1, sh2⟩ := hsh x hx
          unfold mmF
          rcases minmax sh1 sh2 with ⟨m1, m2⟩ | ⟨m1, m2⟩
          · rw [m1, m2]; exact .inl hx
          · rw [m1, m2]; exact .inr hx
        have hm2 : ∀ x ∈ foundOf S d ps, x ∈ (foundOf S d ps).map mmF ∨ (x.2, x.1) ∈ (foundOf S d ps).map mmF := fun x hx => by
          obtain ⟨sh1, sh2⟩ := hsh x hx
          rcases minmax sh1 sh2 with ⟨m1, m2⟩ | ⟨m1, m2⟩
          · exact .inl (List.mem_map.mpr ⟨x, hx, by unfold mmF; rw [m1, m2]⟩)
          · exact .inr (List.mem_map.mpr ⟨x, hx, by unfold mmF; rw [m1, m2]⟩)
        have hsm : ∀ y ∈ (foundOf S d ps).map mmF, y.1 ∈ facesOf S ∧ y.2 ∈ facesOf S := fun y hy => by
          rcases hm y hy with h | h
          · exact hin y h
          · exact (hin _ h).symm
        refine ⟨D, _, (foundOf S d ps).map mmF, fun v y => ∃ q, v = V.ref q ∧ PairAt H2 q y, rfl, SqL.of hcs, refs_paired pc, ?_, ?_, ?_, ?_, fun ys r hys hr => ?_⟩
        · rintro x y ⟨q, rfl, h⟩
          exact dp_pair h
        · intro x hx y hy
          obtain ⟨x', hx', rfl⟩ := List.mem_map.mp hx
          obtain ⟨y', hy', rfl⟩ := List.mem_map.mp hy
          exact pair_alike (shap_in (hsm _ hx').1) (shap_in (hsm _ hx').2) (shap_in (hsm _ hy').1) (shap_in (hsm _ hy').2)
        · refine .inl fun x hx => ?_
          obtain ⟨x', hx', rfl⟩ := List.mem_map.mp hx
          exact ⟨_, _, rfl⟩
        · intro x hx
          exact pair_depth (shap_in (hsm _ hx).1) (shap_in (hsm _ hx).2)
        · obtain ⟨rs, rfl, pr⟩ := paired_refs hys
          have perm := List.mergeSort_perm ((foundOf S d ps).map mmF) (PySem.W.dataLe false pairD)
          have s3 := s1.trans (s2.trans (Same.new (o := .lst (rs.map V.ref)) hr))
          refine k _ r _ s3 (s1.free (s2.free hr)) ⟨rs, upd_same, PairsAt.tk (TK.new hr) pr⟩ ?_ (fun f g => ?_) fun x hx => hsm x (perm.mem_iff.mp hx)
          · rw [perm.length_eq, List.length_map]
            omega
          · rw [perm.mem_iff, perm.mem_iff]
            constructor
            · rintro (h | h)
              · exact hm _ h
              · exact (hm _ h).symm
            · rintro (h | h)
              · exact hm2 _ h
              · exact (hm2 _ h).symm
end
end Wm
end
section
set_option Elab.async false
set_option linter.all false
set_option maxRecDepth 100000
set_option maxHeartbeats 4000000
/-! Rollings: what touches what, the rounds; plain lemmas. -/
namespace Wm
open PySem PySem.Spec PyProof.Rows L2 WmM
set_option autoImplicit false
abbrev AdjT : Type := Fc → Fc → Prop
abbrev Gh : Type := Addr → Option AdjT
structure FsOk (F : List Fc) : Prop where
  shap : ∀ f ∈ F, Shap f
  lay : ∀ f ∈ F, (faceD f).canLay0 = true
  len : F.length ≤ 600
theorem flatMap_len {α β : Type} (f : α → List β) (n : Nat) : ∀ l : List α, (∀ a ∈ l, (f a).length ≤ n) → (l.flatMap f).length ≤ n * l.length
  | [], _ => by simp
  | a :: l, h => by
    rw [List.flatMap_cons, List.length_append, List.length_cons, Nat.mul_succ]
    have := h a List.mem_cons_self
    have := flatMap_len f n l fun b hb => h b (List.mem_cons_of_mem _ hb)
    omega
theorem lay_dr (d c : Int) : (faceD (fDr d c)).canLay0 = true := by
  have h1 : PyData.strOk "drum" = true := by decide +kernel
  have h2 : PyData.strOk "out" = true := by decide +kernel
  simp [faceD, fDr, keyD, PyData.canLay0, PyData.canLayAll0, h1, h2]
theorem lay_b (d c : Int) : (faceD (fSt d c "back")).canLay0 = true := by
  have h1 : PyData.strOk "strip" = true := by decide +kernel
  have h2 : PyData.strOk "back" = true := by decide +kernel
  simp [faceD, fSt, keyD, PyData.canLay0, PyData.canLayAll0, h1, h2]
theorem lay_f (d c : Int) : (faceD (fSt d c "front")).canLay0 = true := by
  have h1 : PyData.strOk "strip" = true := by decide +kernel
  have h2 : PyData.strOk "front" = true := by decide +kernel
  simp [faceD, fSt, keyD, PyData.canLay0, PyData.canLayAll0, h1, h2]
theorem facesOf_ok {S : Shp} (O : ShpOk S) : FsOk (facesOf S) := by
  refine ⟨fun f h => shap_in h, fun f h => ?_, ?_⟩
  · rcases List.mem_append.mp h with h | h
    · obtain ⟨i, _, h⟩ := List.mem_flatMap.mp h
      obtain ⟨c, _, rfl⟩ := List.mem_map.mp h
      exact lay_dr _ _
    · obtain ⟨i, _, h⟩ := List.mem_flatMap.mp h
      obtain ⟨c, _, h⟩ := List.mem_flatMap.mp h
      rcases List.mem_cons.mp h with rfl | h
      · exact lay_b _ _
      · rw [List.mem_singleton.mp h]
        exact lay_f _ _
  · unfold facesOf
    rw [List.length_append]
    have h1 := flatMap_len (dF S.ds) 40 (List.range S.ds.length) fun i hi => by
      have := O.dr _ (getD_mem (d := ((0, 0) : Int × Int)) (List.mem_range.mp hi))
      have := this.f2
      rw [dF_len]
      omega
    have h2 := flatMap_len (sF S.ls) 80 (List.range S.ls.length) fun i hi => by
      have q := O.lr _ (getD_mem (d := 0) (List.mem_range.mp hi))
      have h3 := flatMap_len (fun (c : Nat) => [fSt i c "back", fSt i c "front"]) 2 (List.range (S.ls.getD i 0).toNat) fun _ _ => Nat.le_refl _
      rw [List.length_range] at h3
      unfold sF
      omega
    rw [List.length_range] at h1 h2
    have := O.d2
    have := O.l2
    omega
/-- the dict at q: how far each face lies from f -/
def DistD (H : Hp) (q : Addr) (adj : AdjT) (f : Fc) : Prop := ∃ kvs, H q = some (.dT kvs) ∧ (kvs.map (·.1)).Nodup ∧ kvs.length ≤ 600 ∧ ∀ x v, valV kvs x = some v ↔ ∃ n : Nat, v = .int n ∧ Dist adj f x n
/-- an entry stands apart: it is no rounds, and none of Z -/
def GZ (G : Gh) (Z : Addr → Prop) (q : Addr) : Prop := G q = none ∧ ¬ Z q
/-- the rounds that G names -/
def RInv (F : List Fc) (Z : Addr → Prop) (G : Gh) (H : Hp) : Prop := ∀ a adj, G a = some adj → ∃ kvs, H a = some (.dT kvs) ∧ (kvs.map (·.1)).Nodup ∧ (∀ k ∈ kvs.map (·.1), k ∈ F) ∧ ∀ k v, valV kvs k = some v → ∃ q, v = .ref q ∧ GZ G Z q ∧ DistD H q adj k
def Keep (G : Gh) (H H' : Hp) : Prop := ∀ b o, G b = none → H b = some o → H' b = some o
theorem Keep.refl (G : Gh) (H : Hp) : Keep G H H := fun _ _ _ e => e
theorem Keep.trans {G : Gh} {H H1 H2 : Hp} (a : Keep G H H1) (b : Keep G H1 H2) : Keep G H H2 := fun x o g e => b x o g (a x o g e)
theorem Keep.same {G : Gh} {H H' : Hp} (s : Same H H') : Keep G H H' := fun x o _ e => s x o e
theorem RInv.dT {F : List Fc} {Z : Addr → Prop} {G : Gh} {H : Hp} (R : RInv F Z G H) {b : Addr} {o : HO} (e : H b = some o) (n : noT o = true) : G b = none := by
  cases q : G b with
  | none => rfl
  | some adj =>
    obtain ⟨kvs, h, _⟩ := R b adj q
    rw [h] at e
    cases e
    cases n
theorem RInv.out {F : List Fc} {Z : Addr → Prop} {G : Gh} {H : Hp} (R : RInv F Z G H) {b : Addr} (e : H b = none) : G b = none := by
  cases q : G b with
  | none => rfl
  | some adj =>
    obtain ⟨kvs, h, _⟩ := R b adj q
    rw [h] at e
    cases e
theorem Keep.kn {F : List Fc} {Z : Addr → Prop} {G : Gh} {H H' : Hp} (R : RInv F Z G H) (k : Keep G H H') : Kn H H' := fun b o e n => k b o (R.dT e n) e
theorem DistD.keep {G : Gh} {H H' : Hp} (k : Keep G H H') {q : Addr} {adj : AdjT} {f : Fc} (g : G q = none) (h : DistD H q adj f) : DistD H' q adj f := let ⟨kvs, h1, h2⟩ := h; ⟨kvs, k _ _ g h1, h2⟩
/-- nothing but new things: the rounds stay -/
theorem RInv.same {F : List Fc} {Z : Addr → Prop} {G : Gh} {H H' : Hp} (R : RInv F Z G H) (s : Same H H') : RInv F Z G H' := fun a adj e => by
  obtain ⟨kvs, h1, h2, h3, h4⟩ := R a adj e
  exact ⟨kvs, s _ _ h1, h2, h3, fun k v hv => let ⟨q, e1, e2, e3⟩ := h4 k v hv; ⟨q, e1, e2, e3.keep (Keep.same s) e2.1⟩⟩
/-- the lists of what touches what -/
def NextsAt (H : Hp) (nx : Addr) (m : Fc → List Fc) : Prop := ∃ kvs, H nx = some (.dT kvs) ∧ (∀ k v, valV kvs k = some v → ∃ l, v = .ref l ∧ FacesL H l (m k) ∧ m k ≠ []) ∧ ∀ k, valV kvs k = none → m k = []
def RollB (K : PySem.W.Frag) (F : List Fc) (H : Hp) (r nx rd : Addr) (adj : AdjT) : Prop := ∃ (d : Int) (a l : Addr) (m : Fc → List Fc), RollO K H r d a l nx rd ∧ NextsAt H nx m ∧ (∀ k g, g ∈ m k ↔ adj k g) ∧ (∀ k g, adj k g → k ∈ F ∧ g ∈ F) ∧ ∀ k, (m k).length ≤ 4000
def RollAt (K : PySem.W.Frag) (F : List Fc) (G : Gh) (H : Hp) (r : Addr) (adj : AdjT) : Prop := ∃ nx rd, G nx = none ∧ G rd = some adj ∧ RollB K F H r nx rd adj
theorem FacesL.kn {H H' : Hp} {l : Addr} {fs : List Fc} (k : Kn H H') (h : FacesL H l fs) : FacesL H' l fs := let ⟨as, h1, h2⟩ := h; ⟨as, k _ _ h1 rfl, h2.tk k.tk⟩
theorem NextsAt.kn {H H' : Hp} {nx : Addr} {m : Fc → List Fc} (k : Kn H H') (e : ∀ o, H nx = some o → H' nx = some o) (h : NextsAt H nx m) : NextsAt H' nx m := by
  obtain ⟨kvs, h1, h2, h3⟩ := h
  exact ⟨kvs, e _ h1, fun k' v hv => let ⟨l, e1, e2, e3⟩ := h2 k' v hv; ⟨l, e1, e2.kn k, e3⟩, h3⟩
theorem RollB.kn {K : PySem.W.Frag} {F : List Fc} {H H' : Hp} {r nx rd : Addr} {adj : AdjT} (k : Kn H H') (e : ∀ o, H nx = some o → H' nx = some o) (h : RollB K F H r nx rd adj) : RollB K F H' r nx rd adj := by
  obtain ⟨d, a, l, m, ⟨dx, h1⟩, h2, h3⟩ := h
  exact ⟨d, a, l, m, ⟨dx, k _ _ h1 rfl⟩, h2.kn k e, h3⟩
theorem RollAt.keep {K : PySem.W.Frag} {F : List Fc} {Z : Addr → Prop} {G : Gh} {H H' : Hp} {r : Addr} {adj : AdjT} (R : RInv F Z G H) (k : Keep G H H') (h : RollAt K F G H r adj) : RollAt K F G H' r adj := by
  obtain ⟨nx, rd, g1, g2, b⟩ := h
  exact ⟨nx, rd, g1, g2, b.kn (k.kn R) fun o e => k _ _ g1 e⟩
def moreG (G : Gh) (rd : Addr) (adj : AdjT) : Gh := fun b => if b = rd then some adj else G b
theorem moreG_eq {G : Gh} {rd : Addr} {adj : AdjT} : moreG G rd adj rd = some adj := by unfold moreG; rw [if_pos rfl]
theorem moreG_ne {G : Gh} {rd b : Addr} {adj : AdjT} (h : b ≠ rd) : moreG G rd adj b = G b := by unfold moreG; rw [if_neg h]
/-- one more set of rounds, at a new place -/
theorem RInv.more {F : List Fc} {Z : Addr → Prop} {G : Gh} {H : Hp} (R : RInv F Z G H) {H' : Hp} (s : Same H H') {rd : Addr} {adj : AdjT} (n : H rd = none) (e : H' rd = some (.dT [])) : RInv F Z (moreG G rd adj) H' := fun a adj' ea => by
  by_cases q : a = rd
  · subst q
    rw [moreG_eq] at ea
    cases ea
    exact ⟨[], e, List.nodup_nil, fun k h => (nomatch h), fun k v h => by rw [valV_nil] at h; cases h⟩
  · rw [moreG_ne q] at ea
    obtain ⟨kvs, h1, h2, h3, h4⟩ := R a adj' ea
    refine ⟨kvs, s _ _ h1, h2, h3, fun k v hv => ?_⟩
    obtain ⟨q', e1, e2, e3⟩ := h4 k v hv
    have nq : q' ≠ rd := fun z => by
      obtain ⟨kv, h5, _⟩ := e3
      rw [z, n] at h5
      cases h5
    exact ⟨q', e1, ⟨by rw [moreG_ne nq]; exact e2.1, e2.2⟩, e3.keep (Keep.same s) e2.1⟩
theorem RollAt.more {K : PySem.W.Frag} {F : List Fc} {Z : Addr → Prop} {G : Gh} {H H' : Hp} {r : Addr} {adj adj' : AdjT} {rd : Addr} (R : RInv F Z G H) (s : Same H H') (n : H rd = none) (h : RollAt K F G H r adj) : RollAt K F (moreG G rd adj') H' r adj := by
  obtain ⟨nx, rd', g1, g2, b⟩ := h
  have n1 : nx ≠ rd := fun z => by
    obtain ⟨_, _, _, _, _, ⟨_, h, _⟩, _⟩ := b
    rw [z, n] at h
    cases h
  have n2 : rd' ≠ rd := fun z => by
    rw [z, R.out n] at g2
    cases g2
  exact ⟨nx, rd', by rw [moreG_ne n1]; exact g1, by rw [moreG_ne n2]; exact g2, b.kn (Kn.same s) fun o e => s _ _ e⟩

/-! ### the lists as they grow -/
structure NextsI (H0 H : Hp) (nx l' : Addr) (kvs : List (Fc × V)) (m : Fc → List Fc) : Prop where
  at_ : H nx = some (.dT kvs)
  val : ∀ k v, valV kvs k = some v → ∃ l, v = .ref l ∧ FacesL H l (m k) ∧ H0 l = none ∧ l ≠ l' ∧ m k ≠ []
  nil : ∀ k, valV kvs k = none → m k = []
  inj : ∀ k k' l, valV kvs k = some (.ref l) → valV kvs k' = some (.ref l) → k = k'
def addM (m : Fc → List Fc) (f g : Fc) : Fc → List Fc := fun k => if k = f then m k ++ [g] else m k
theorem NextsI.old {H0 H : Hp} {nx l' l b : Addr} {kvs : List (Fc × V)} {m : Fc → List Fc} {f g : Fc} (I : NextsI H0 H nx l' kvs m) {ws : List V} (hv : valV kvs f = some (.ref l)) (hl : H l = some (.lst ws)) (hb : TupF H b g) : NextsI H0 (upd H l (.lst (ws ++ [.ref b]))) nx l' kvs (addM m f g) := by
  have nxl : nx ≠ l := ne_of I.at_ hl fun z => nomatch z
  refine ⟨by rw [upd_ne nxl]; exact I.at_, fun k v hk => ?_, fun k hk => ?_, I.inj⟩
  · obtain ⟨l1, rfl, ⟨as, h1, h2⟩, h3, h4, h5⟩ := I.val k v hk
    refine ⟨l1, rfl, ?_, h3, h4, ?_⟩
    rotate_left
    · unfold addM
      by_cases e : k = f
      · rw [if_pos e]
        simp
      · rw [if_neg e]
        exact h5
    unfold addM
    by_cases e : k = f
    · subst e
      rw [hv] at hk
      cases hk
      rw [hl] at h1
      have e2 : ws = as.map V.ref := by injection (Option.some.inj h1)
      subst e2
      rw [if_pos rfl]
      exact ⟨as ++ [b], by rw [upd_same, List.map_append]; rfl, (h2.tk (TK.lst hl)).snoc (TK.lst hl _ _ hb)⟩
    · rw [if_neg e]
      have n : l1 ≠ l := fun z => by
        rw [z] at hk
        exact e (I.inj _ _ _ hk hv)
      exact ⟨as, by rw [upd_ne n]; exact h1, h2.tk (TK.lst hl)⟩
  · unfold addM
    have e : k ≠ f := fun z => by
      rw [z, hv] at hk
      cases hk
    rw [if_neg e]
    exact I.nil k hk
theorem NextsI.new {H0 H : Hp} {nx l' z b : Addr} {kvs : List (Fc × V)} {m : Fc → List Fc} {f g : Fc} (I : NextsI H0 H nx l' kvs m) (hv : valV kvs f = none) (hz : H z = none) (h0 : H0 z = none) (hl' : z ≠ l') (hb : TupF H b g) :
    NextsI H0 (upd (upd (upd H z (.lst [])) nx (.dT (putK kvs f (.ref z)))) z (.lst [.ref b])) nx l' (putK kvs f (.ref z)) (addM m f g) := by
  have nxz : nx ≠ z := ne_of_none I.at_ hz
  have k1 : TK H (upd H z (.lst [])) := TK.new hz
  have k2 : TK (upd H z (.lst [])) (upd (upd H z (.lst [])) nx (.dT (putK kvs f (.ref z)))) := TK.dT (kept I.at_ hz)
  have h3 : upd (upd H z (.lst [])) nx (.dT (putK kvs f (.ref z))) z = some (.lst []) := by rw [upd_ne nxz.symm, upd_same]
  have k3 : TK H (upd (upd (upd H z (.lst [])) nx (.dT (putK kvs f (.ref z)))) z (.lst [.ref b])) := (k1.trans k2).trans (TK.lst h3)
  have lne : ∀ k l, valV kvs k = some (.ref l) → l ≠ z := fun k l hk e => by
    obtain ⟨l1, e1, ⟨as, h1, _⟩, _⟩ := I.val k _ hk
    cases e1
    rw [e, hz] at h1
    cases h1
  refine ⟨by rw [upd_ne nxz, upd_same], fun k v hk => ?_, fun k hk => ?_, fun k k' l h1 h2 => ?_⟩
  · rw [valV_put] at hk
    unfold addM
    by_cases e : k = f
    · rw [if_pos e] at hk
      cases hk
      rw [if_pos e, e, I.nil f hv]
      exact ⟨z, rfl, ⟨[b], upd_same, .cons (k3 _ _ hb) .nil⟩, h0, hl', by simp⟩
    · rw [if_neg e] at hk
      rw [if_neg e]
      obtain ⟨l1, rfl, ⟨as, h1, h2⟩, h5, h6, h7⟩ := I.val k v hk
      have n1 : l1 ≠ nx := ne_of h1 I.at_ fun z => nomatch z
      exact ⟨l1, rfl, ⟨as, by rw [upd_ne (lne k l1 hk), upd_ne n1, upd_ne (lne k l1 hk)]; exact h1, h2.tk k3⟩, h5, h6, h7⟩
  · rw [valV_put] at hk
    unfold addM
    by_cases e : k = f
    · rw [if_pos e] at hk
      cases hk
    · rw [if_neg e] at hk
      rw [if_neg e]
      exact I.nil k hk
  · rw [valV_put] at h1 h2
    by_cases e : k = f
    · by_cases e' : k' = f
      · rw [e, e']
      · rw [if_pos e] at h1
        rw [if_neg e'] at h2
        cases h1
        exact absurd rfl (lne k' _ h2)
    · by_cases e' : k' = f
      · rw [if_neg e] at h1
        rw [if_pos e'] at h2
        cases h2
        exact absurd rfl (lne k _ h1)
      · rw [if_neg e] at h1
        rw [if_neg e'] at h2
        exact I.inj _ _ _ h1 h2

/-! ### the search, level by level -/
structure BInv (adj : AdjT) (f : Fc) (kvs : List (Fc × V)) (n : Nat) (line : List Fc) : Prop where
  val : ∀ x v, valV kvs x = some v ↔ ∃ k : Nat, k ≤ n ∧ v = .int k ∧ Dist adj f x k
  line : ∀ x, x ∈ line ↔ Dist adj f x n
structure PInv (adj : AdjT) (f : Fc) (kvs : List (Fc × V)) (n : Nat) (later : List Fc) (P : Fc → Prop) : Prop where
  val : ∀ x v, valV kvs x = some v ↔ (∃ k : Nat, k ≤ n ∧ v = .int k ∧ Dist adj f x k) ∨ (x ∈ later ∧ v = .int ((n : Int) + 1))
  lat : ∀ x ∈ later, Dist adj f x (n + 1)
  seen : ∀ x, P x → valV kvs x ≠ none
theorem BInv.start {adj : AdjT} {f : Fc} : BInv adj f [(f, .int 0)] 0 [f] := by
  refine ⟨fun x v => ?_, fun x => ?_⟩
  · constructor
    · intro h
      by_cases e : f = x
      · rw [valV_pos (p := (f, V.int 0)) (r := []) e] at h
        cases h
        exact ⟨0, Nat.le_refl _, rfl, dist_zero.mpr e⟩
      · rw [valV_neg (p := (f, V.int 0)) (r := []) e, valV_nil] at h
        cases h
    · rintro ⟨k, h1, rfl, h2⟩
      have e : k = 0 := by omega
      subst e
      exact valV_pos (p := (f, V.int 0)) (r := []) (dist_zero.mp h2)
  · rw [List.mem_singleton, dist_zero]
    exact eq_comm
theorem BInv.pinv {adj : AdjT} {f : Fc} {kvs : List (Fc × V)} {n : Nat} {line : List Fc} (B : BInv adj f kvs n line) : PInv adj f kvs n [] (fun _ => False) := by
  refine ⟨fun x v => ?_, fun x h => (nomatch h), fun x h => h.elim⟩
  rw [B.val]
  constructor
  · exact .inl
  · rintro (h | ⟨h, _⟩)
    · exact h
    · cases h
theorem PInv.seen1 {adj : AdjT} {f g : Fc} {kvs : List (Fc × V)} {n : Nat} {later : List Fc} {P : Fc → Prop} (I : PInv adj f kvs n later P) (h : valV kvs g ≠ none) : PInv adj f kvs n later (fun x => P x ∨ x = g) := ⟨I.val, I.lat, fun x hx => by
  rcases hx with hx | rfl
  · exact I.seen x hx
  · exact h⟩
theorem PInv.imp {adj : AdjT} {f : Fc} {kvs : List (Fc × V)} {n : Nat} {later : List Fc} {P P' : Fc → Prop} (I : PInv adj f kvs n later P) (h : ∀ x, P' x → P x) : PInv adj f kvs n later P' := ⟨I.val, I.lat, fun x hx => I.seen x (h x hx)⟩
theorem PInv.dist {adj : AdjT} {f y g : Fc} {kvs : List (Fc × V)} {n : Nat} {later : List Fc} {P : Fc → Prop} (I : PInv adj f kvs n later P) (hy : Dist adj f y n) (ha : adj y g) (h : valV kvs g = none) : Dist adj f g (n + 1) := by
  obtain ⟨m, hm, hd⟩ := dist_le_succ hy ha
  by_cases e : m = n + 1
  · rw [← e]
    exact hd
  · have : valV kvs g = some (.int m) := (I.val g _).mpr (.inl ⟨m, by omega, rfl, hd⟩)
    rw [h] at this
    cases this
theorem PInv.add {adj : AdjT} {f y g : Fc} {kvs : List (Fc × V)} {n : Nat} {later : List Fc} {P : Fc → Prop} (I : PInv adj f kvs n later P) (hy : Dist adj f y n) (ha : adj y g) (h : valV kvs g = none) :
    PInv adj f (putK kvs g (.int ((n : Int) + 1))) n (later ++ [g]) (fun x => P x ∨ x = g) := by
  have hd := I.dist hy ha h
  refine ⟨fun x v => ?_, fun x hx => ?_, fun x hx => ?_⟩
  · rw [valV_put]
    by_cases e : x = g
    · rw [if_pos e]
      subst e
      constructor
      · intro q
        cases q
        exact .inr ⟨List.mem_append_right _ List.mem_cons_self, rfl⟩
      · rintro (⟨k, h1, rfl, h2⟩ | ⟨_, rfl⟩)
        · have := dist_uniq hd h2
          omega
        · rfl
    · rw [if_neg e, I.val]
      constructor
      · rintro (q | ⟨q, r⟩)
        · exact .inl q
        · exact .inr ⟨List.mem_append_left _ q, r⟩
      · rintro (q | ⟨q, r⟩)
        · exact .inl q
        · rcases List.mem_append.mp q with q | q
          · exact .inr ⟨q, r⟩
          · exact absurd (List.mem_singleton.mp q) e
  · rcases List.mem_append.mp hx with hx | hx
    · exact I.lat x hx
    · rw [List.mem_singleton.mp hx]
      exact hd
  · rw [valV_put]
    by_cases e : x = g
    · rw [if_pos e]
      exact fun z => nomatch z
    · rw [if_neg e]
      rcases hx with hx | hx
      · exact I.seen x hx
      · exact absurd hx e
theorem PInv.next {adj : AdjT} {f : Fc} {kvs : List (Fc × V)} {n : Nat} {later : List Fc} {line : List Fc} (hl : ∀ x, x ∈ line ↔ Dist adj f x n) (I : PInv adj f kvs n later (fun x => ∃ y ∈ line, adj y x)) : BInv adj f kvs (n + 1) later := by
  have key : ∀ x, Dist adj f x (n + 1) → x ∈ later := fun x hx => by
    obtain ⟨y, hy, ha⟩ := dist_pred hx
    have hs := I.seen x ⟨y, (hl y).mpr hy, ha⟩
    cases e : valV kvs x with
    | none => exact absurd e hs
    | some v =>
      rcases (I.val x v).mp e with ⟨k, h1, _, h2⟩ | ⟨h, _⟩
      · have := dist_uniq hx h2
        omega
      · exact h
  refine ⟨fun x v => ?_, fun x => ⟨I.lat x, key x⟩⟩
  rw [I.val]
  constructor
  · rintro (⟨k, h1, h2⟩ | ⟨h1, rfl⟩)
    · exact ⟨k, by omega, h2⟩
    · exact ⟨n + 1, Nat.le_refl _, rfl, I.lat x h1⟩
  · rintro ⟨k, h1, rfl, h2⟩
    by_cases e : k = n + 1
    · subst e
      exact .inr ⟨key x h2, rfl⟩
    · exact .inl ⟨k, by omega, rfl, h2⟩
/-- the search has ended -/
theorem BInv.done {adj : AdjT} {f : Fc} {kvs : List (Fc × V)} {n : Nat} (B : BInv adj f kvs n []) : ∀ x v, valV kvs x = some v ↔ ∃ k : Nat, v = .int k ∧ Dist adj f x k := by
  have none_n : ∀ x, ¬ Dist adj f x n := fun x h => by cases (B.line x).mpr h
  have up : ∀ j x, ¬ Dist adj f x (n + j) := fun j => by
    induction j with
    | zero => exact none_n
    | succ j ih =>
      intro x h
      obtain ⟨y, hy, _⟩ := dist_pred (show Dist adj f x (n + j + 1) from h)
      exact ih y hy
  intro x v
  rw [B.val]
  constructor
  · rintro ⟨k, _, h⟩
    exact ⟨k, h⟩
  · rintro ⟨k, h1, h2⟩
    refine ⟨k, ?_, h1, h2⟩
    rcases Nat.lt_or_ge n k with h | h
    · have := up (k - n) x
      rw [show n + (k - n) = k by omega] at this
      exact absurd h2 this
    · exact h
end Wm
end
section
set_option Elab.async false
set_option linter.all false
set_option maxRecDepth 100000
set_option maxHeartbeats 4000000
/-! near, around: walked. -/
namespace Wm
open PySem PySem.Spec PyProof.Rows L2 WmM
set_option autoImplicit false
def sp_Rolling_near (K : PySem.W.Frag) : Sp := fun vs H Q _ => ∃ (r a nx rd : Addr) (f : Fc) (F : List Fc) (adj : AdjT), vs = [.ref r, .ref a] ∧ RollB K F H r nx rd adj ∧ TupF H a f ∧ FsOk F ∧ ∀ H' l fs, Same H H' → H l = none → FacesL H' l fs → (∀ g, g ∈ fs ↔ adj f g) → fs.length ≤ 4000 → Q (.ref l) H'
def sp_Rolling_around (K : PySem.W.Frag) : Sp := fun vs H Q _ => ∃ (r a : Addr) (f : Fc) (F : List Fc) (Z : Addr → Prop) (G : Gh) (adj : AdjT), vs = [.ref r, .ref a] ∧ (∀ b, Z b → H b ≠ none) ∧ RInv F Z G H ∧ RollAt K F G H r adj ∧ TupF H a f ∧ f ∈ F ∧ FsOk F ∧ ∀ H' q, Keep G H H' → RInv F Z G H' → GZ G Z q → DistD H' q adj f → Q (.ref q) H'
theorem dp_faces {K : PySem.W.Frag} {H : Hp} : ∀ {as : List Addr} {fs : List Fc}, TupsAt H as fs → DpAll K H (as.map V.ref) (fs.map faceD)
  | _, _, .nil => .nil
  | _, _, .cons h t => .cons (dp_face h) (dp_faces t)
theorem lay_all : ∀ {fs : List Fc}, (∀ f ∈ fs, (faceD f).canLay0 = true) → PyData.canLayAll0 (fs.map faceD) = true
  | [], _ => rfl
  | f :: fs, h => by
    show ((faceD f).canLay0 && PyData.canLayAll0 (fs.map faceD)) = true
    rw [h f List.mem_cons_self, lay_all fun g hg => h g (List.mem_cons_of_mem _ hg)]
    rfl
theorem depth_all : ∀ {fs : List Fc}, (∀ f ∈ fs, Shap f) → PyData.depthAll (fs.map faceD) ≤ 1
  | [], _ => Nat.zero_le _
  | f :: fs, h => Nat.max_le.mpr ⟨face_depth (h f List.mem_cons_self), depth_all fun g hg => h g (List.mem_cons_of_mem _ hg)⟩
theorem shaped_faces {F fs : List Fc} (hF : FsOk F) (h : ∀ f ∈ fs, f ∈ F) : SeqAt.shaped (.list (fs.map faceD)) = true := by
  have h1 : (PyData.list (fs.map faceD)).canLay0 = true := lay_all fun f hf => hF.lay f (h f hf)
  have h2 : (PyData.list (fs.map faceD)).depth ≤ 64 := by
    have := depth_all fun f hf => hF.shap f (h f hf)
    show PyData.depthAll (fs.map faceD) + 1 ≤ 64
    omega
  unfold SeqAt.shaped
  rw [h1, decide_eq_true h2]
  rfl
theorem eqv_nil (fs : List Fc) : PyData.eqv (.list (fs.map faceD)) (.list []) = fs.isEmpty := by cases fs <;> rfl
theorem valV_mem {κ : Type} [DecidableEq κ] {k : κ} {v : V} : ∀ {kvs : List (κ × V)}, valV kvs k = some v → k ∈ kvs.map (·.1)
  | [], h => by rw [valV_nil] at h; cases h
  | p :: r, h => by
    by_cases e : p.1 = k
    · rw [← e]
      exact List.mem_cons_self
    · rw [valV_neg e] at h
      exact List.mem_cons_of_mem _ (valV_mem h)
theorem valV_of_mem {κ : Type} [DecidableEq κ] {k : κ} : ∀ {kvs : List (κ × V)}, k ∈ kvs.map (·.1) → ∃ v, valV kvs k = some v
  | p :: r, h => by
    by_cases e : p.1 = k
    · exact ⟨p.2, valV_pos e⟩
    · rw [valV_neg e]
      rcases List.mem_cons.mp h with q | q
      · exact absurd q.symm e
      · exact valV_of_mem q
theorem keys_new {κ : Type} [DecidableEq κ] {k : κ} {v : V} {kvs : List (κ × V)} (h : valV kvs k = none) : (putK kvs k v).map (·.1) = kvs.map (·.1) ++ [k] := by rw [putK_new v h, List.map_append]; rfl
theorem nodup_new {κ : Type} [DecidableEq κ] {k : κ} {v : V} {kvs : List (κ × V)} (h : valV kvs k = none) (n : (kvs.map (·.1)).Nodup) : ((putK kvs k v).map (·.1)).Nodup := by
  rw [keys_new h, List.nodup_append]
  refine ⟨n, List.nodup_cons.mpr ⟨fun z => (nomatch z), List.nodup_nil⟩, fun a ha b hb e => ?_⟩
  rw [List.mem_singleton.mp hb] at e
  subst e
  obtain ⟨v, hv⟩ := valV_of_mem ha
  rw [h] at hv
  cases hv
theorem keys_in {F : List Fc} {kvs : List (Fc × V)} {k : Fc} {v : V} (h : valV kvs k = none) (hF : ∀ x ∈ kvs.map (·.1), x ∈ F) (hk : k ∈ F) : ∀ x ∈ (putK kvs k v).map (·.1), x ∈ F := fun x hx => by
  rw [keys_new h] at hx
  rcases List.mem_append.mp hx with hx | hx
  · exact hF x hx
  · rw [List.mem_singleton.mp hx]
    exact hk
theorem keys_len {F : List Fc} {kvs : List (Fc × V)} (OF : FsOk F) (n : (kvs.map (·.1)).Nodup) (hF : ∀ x ∈ kvs.map (·.1), x ∈ F) : kvs.length ≤ 600 := by
  have := n.length_le_of_subset fun x hx => hF x hx
  rw [List.length_map] at this
  exact Nat.le_trans this OF.len
def muB : L2.St → Hp → Nat := fun σ H => match σ with
  | [_, _, some (.ref q), some (.ref ln), _, _, _] => (match H q with | some (.dT kvs) => 2 * (601 - kvs.length) | _ => 0) + (match H ln with | some (.lst xs) => if xs.isEmpty = true then 0 else 1 | _ => 0)
  | _ => 0
theorem muB_eq {x0 x1 x4 x5 x6 : Option V} {q ln : Addr} {H : Hp} {kvs : List (Fc × V)} {xs : List V} (h1 : H q = some (.dT kvs)) (h2 : H ln = some (.lst xs)) : muB [x0, x1, some (.ref q), some (.ref ln), x4, x5, x6] H = 2 * (601 - kvs.length) + if xs.isEmpty = true then 0 else 1 := by
  unfold muB
  simp only [h1, h2]
section
variable {P : Program} {w : World} {K : PySem.W.Frag} {mg : Str → Option Value} {base : Heap}
theorem ok_Rolling_near (T : Tx K mg) : Dn P w K mg base 1 (He.ma K (He.ga K "Rolling") "near") ["self", "face"] (sp_Rolling_near K) := by
  refine dn_of T.F_Rolling_near sc_Rolling_near (fun _ _ _ _ _ _ us hl => match us, hl with | [_, _], _ => rfl) (fun vs H Q E h => ?_) (fun cdv A outer s H vs Q E hr h => ?_)
  · obtain ⟨_, _, _, _, _, _, _, rfl, _⟩ := h
    rfl
  · obtain ⟨r, a, nx, rd, f, F, adj, rfl, ⟨d, da, l, m, ⟨dx, hr1⟩, ⟨kvs, hn, hv, hv0⟩, hm, hmF, hml⟩, hf, OF, k⟩ := h
    refine ⟨_, (pss_one (ps_ret (pe_callB (cr_srt (enc := faceD) hr.units) (by rfl) T.n_sorted (by decide +kernel) (pa_cons (pe_dget2 (hu_of hr) (pe_fld (pv 0) rfl) (pv 1) (pe_lst pa_nil) ⟨rfl, rfl, rfl, rfl⟩) pa_nil)))), ?_⟩
    refine ⟨_, rfl, r, _, dx, _, _, rfl, hr1, T.c_Rolling, T.a_Rolling_nexts, r_n, nx, rfl, .inr ⟨kvs, .of hn⟩, _, rfl, Nat.zero_le _, fun z hz => ?_⟩
    refine ⟨_, DGet.t (kept hn hz) (kept hf hz), ?_⟩
    have s1 : Same H (upd H z (.lst [])) := Same.new hz
    have fin : ∀ (l : Addr) (as : List Addr) (fs : List Fc), upd H z (.lst []) l = some (.lst (as.map V.ref)) → TupsAt (upd H z (.lst [])) as fs → (∀ g, g ∈ fs ↔ adj f g) → fs.length ≤ 4000 →
        rSrt K faceD [V.ref l] (upd H z (.lst [])) Q := by
      intro l as fs h1 h2 h3 h4
      have hFs : ∀ g ∈ fs, g ∈ F := fun g hg => (hmF _ _ ((h3 g).mp hg)).2
      refine ⟨l, _, fs, fun v g => ∃ q, v = V.ref q ∧ TupF (upd H z (.lst [])) q g, rfl, SqL.of h1, refs_paired h2, ?_, ?_, ?_, ?_, fun ys p hys hp => ?_⟩
      · rintro x g ⟨q, rfl, hq⟩
        exact dp_face hq
      · intro x hx y hy
        obtain ⟨x', hx', rfl⟩ := List.mem_map.mp hx
        obtain ⟨y', hy', rfl⟩ := List.mem_map.mp hy
        exact face_alike (OF.shap _ (hFs _ hx')) (OF.shap _ (hFs _ hy'))
      · refine .inl fun x hx => ?_
        obtain ⟨x', hx', rfl⟩ := List.mem_map.mp hx
        obtain ⟨_, _, _, _, rfl⟩ := OF.shap _ (hFs _ hx')
        exact ⟨_, _, rfl⟩
      · intro x hx
        exact Nat.le_trans (face_depth (OF.shap _ (hFs _ hx))) (by decide)
      · obtain ⟨qs, rfl, hq⟩ := paired_refs hys
        have perm := List.mergeSort_perm fs (PySem.W.dataLe false faceD)
        refine k _ p _ (s1.trans (Same.new hp)) (s1.free hp) ⟨qs, upd_same, TupsAt.tk (TK.new hp) hq⟩ (fun g => ?_) ?_
        · rw [perm.mem_iff]
          exact h3 g
        · rw [perm.length_eq]
          exact h4
    cases e : valV kvs f with
    | none =>
      show rSrt K faceD [V.ref z] (upd H z (.lst [])) Q
      refine fin z [] [] upd_same .nil (fun g => ?_) (Nat.zero_le _)
      rw [← hm, hv0 f e]
    | some v =>
      obtain ⟨l1, rfl, ⟨as, h1, h2⟩, _⟩ := hv f v e
      exact fin l1 as (m f) (kept h1 hz) (h2.tk (TK.same s1)) (fun g => hm f g) (hml f)
theorem ok_Rolling_around (T : Tx K mg) : Dn P w K mg base 2 (He.ma K (He.ga K "Rolling") "around") ["self", "face"] (sp_Rolling_around K) := by
  refine dn_of T.F_Rolling_around sc_Rolling_around (fun _ _ _ _ _ _ us hl => match us, hl with | [_, _], _ => rfl) (fun vs H Q E h => ?_) (fun cdv A outer s H vs Q E hr h => ?_)
  · obtain ⟨_, _, _, _, _, _, _, rfl, _⟩ := h
    rfl
  · obtain ⟨r, a, f, F, Z, G, adj, rfl, hZ, RI, RA, hf, hF, OF, k⟩ := h
    obtain ⟨nx, rd, g1, g2, B⟩ := id RA
    obtain ⟨d, da, l, m, ⟨dx, hr1⟩, _, _, hmF, _⟩ := id B
    obtain ⟨rk, hrd, rnd, rF, rv⟩ := RI rd adj g2
    refine ⟨_, (pss_cons (ps_if (pt_cmp (pc_dnotin (hu_of hr) (pv 1) (pe_fld (pv 0) rfl))) (pss_cons (ps_set (i := 2) sc_Rolling_around.nd rfl (.inl rfl) (pe_disp1 (hu_of hr) (pv 1) pe_int)) (pss_cons (ps_set (i := 3) sc_Rolling_around.nd rfl (.inl rfl) (pe_lst (pa_cons (pv 1) pa_nil))) (pss_cons (ps_while PassesOwn.never (pt_cmpR (op_neD hr.units) (pv 3) (pe_lst pa_nil) (nomark _)) (pss_cons (ps_set (i := 4) sc_Rolling_around.nd rfl (.inl rfl) (pe_lst pa_nil)) (pss_cons (ps_for PassesOwn.never rfl (pi_list (pv 3)) (pg_name (i := 5) sc_Rolling_around.nd rfl (.inl rfl)) (pss_one (ps_for PassesOwn.never rfl (pi_list (pm (pv 0) T.c_Rolling T.t_Rolling_near (ok_Rolling_near T) hr (pa_cons (pv 5) pa_nil))) (pg_name (i := 6) sc_Rolling_around.nd rfl (.inl rfl)) (pss_one (ps_if (pt_cmp (pc_dnotin (hu_of hr) (pv 6) (pv 2))) (pss_cons (ps_dput (hu_of hr) (pv 2) (pv 6) (pe_op op_add (pe_dget (hu_of hr) (pv 2) (pv 5) (fun _ _ => rfl)) pe_int) rfl) (pss_one (ps_expr (pe_bm PySem.F.plainAttrs_list PySem.F.slot_list_append PySem.F.type_list_append mt_append (pv 4) (pa_cons (pv 6) pa_nil))))) pss_nil))))) (pss_one (ps_set (i := 3) sc_Rolling_around.nd rfl (.inl rfl) (pv 4)))))) (pss_one (ps_dput (hu_of hr) (pe_fld (pv 0) rfl) (pv 1) (pv 2) rfl))))) pss_nil) (pss_one (ps_ret (pe_dget (hu_of hr) (pe_fld (pv 0) rfl) (pv 1) (fun _ _ => rfl))))), ?_⟩
    refine ⟨_, rfl, _, rfl, r, _, dx, _, _, rfl, hr1, T.c_Rolling, T.a_Rolling_rounds, r_r, rd, _, rfl, DGet.t hrd hf, _, rfl, ?_⟩
    cases e : valV rk f with
    | some v =>
      obtain ⟨q, rfl, gq, hq⟩ := rv f v e
      refine ifF rfl ⟨_, rfl, r, _, dx, _, _, rfl, hr1, T.c_Rolling, T.a_Rolling_rounds, r_r, _, rfl, rd, _, rfl, ?_, k H q (Keep.refl G H) RI gq hq⟩
      rw [← e]
      exact DGet.t hrd hf
    | none =>
      refine ifT rfl ?_
      refine fun q hq => ⟨_, rfl, f, a, rfl, kept hf hq, upd_same, ?_⟩
      rw [L2.upd_upd]
      refine ⟨_, rfl, by show 1 ≤ sizeLine; decide, fun ln hln => ?_⟩
      have s1 : Same H (upd (upd H q (.dT [(f, .int 0)])) ln (.lst [.ref a])) := (Same.new hq).trans (Same.new hln)
      have hq1 : upd (upd H q (.dT [(f, .int 0)])) ln (.lst [.ref a]) q = some (.dT [(f, .int 0)]) := kept upd_same hln
      have hl1 : upd (upd H q (.dT [(f, .int 0)])) ln (.lst [.ref a]) ln = some (.lst [.ref a]) := upd_same
      have hln0 : H ln = none := (Same.new hq).free hln
      generalize upd (upd H q (.dT [(f, .int 0)])) ln (.lst [.ref a]) = H1 at s1 hq1 hl1 ⊢
      refine while_by (fun σ H' => ∃ (ln : Addr) (x4 x5 x6 : Option V) (kvs : List (Fc × V)) (n : Nat) (line : List Fc) (las : List Addr), σ = [some (.ref r), some (.ref a), some (.ref q), some (.ref ln), x4, x5, x6] ∧ Same H H' ∧ H ln = none ∧ H' q = some (.dT kvs) ∧ H' ln = some (.lst (las.map V.ref)) ∧ TupsAt H' las line ∧ BInv adj f kvs n line ∧
        (kvs.map (·.1)).Nodup ∧ ∀ x ∈ kvs.map (·.1), x ∈ F) muB ⟨ln, _, _, _, [(f, .int 0)], 0, [f], [a], rfl, s1, hln0, hq1, hl1, .cons (s1 _ _ hf) .nil, BInv.start, List.nodup_cons.mpr ⟨fun z => (nomatch z), List.nodup_nil⟩, fun x hx => by rw [List.mem_singleton.mp hx]; exact hF⟩ ?_ ?_
      · rintro σ H2 ⟨ln, x4, x5, x6, kvs, n, line, las, rfl, s2, hln, hq2, hl2, tl, BI, nd, kF⟩
        have lineF : ∀ x ∈ line, x ∈ F := fun x hx => kF x (valV_mem ((BI.val x _).mpr ⟨n, Nat.le_refl _, rfl, (BI.line x).mp hx⟩))
        have klen := keys_len OF nd kF
        refine ⟨_, rfl, Nat.zero_le _, fun z hz => ⟨_, _, .lst (SqL.of (kept hl2 hz)) (dp_faces (tl.tk (TK.new hz))), .lst (SqL.of upd_same) .nil, shaped_faces OF lineF, rfl, _, rfl, ?_⟩⟩
        rw [eqv_nil]
        have hmu := muB_eq (x0 := some (V.ref r)) (x1 := some (V.ref a)) (x4 := x4) (x5 := x5) (x6 := x6) hq2 hl2
        have s3 : Same H (upd H2 z (.lst [])) := s2.trans (Same.new hz)
        have hq3 := kept (o := .lst []) hq2 hz
        have hl3 := kept (o := .lst []) hl2 hz
        have tl3 := tl.tk (TK.new (o := .lst []) hz)
        generalize upd H2 z (.lst []) = H3 at s3 hq3 hl3 tl3 ⊢
        have llen : las.length = line.length := Paired.length tl
        cases hline : line with
        | nil =>
          rw [hline] at BI
          refine ifF rfl ?_
          have hd := BI.done
          have hrd3 := s3 _ _ hrd
          have rlen := keys_len OF rnd rF
          refine ⟨_, rfl, _, rfl, r, _, dx, _, _, rfl, s3 _ _ hr1, T.c_Rolling, T.a_Rolling_rounds, r_r, _, rfl, rd, _, rfl, DPut.t hrd3 (s3 _ _ hf) (small9 (by omega)), ?_⟩
          have nq : q ≠ rd := ne_of_none hrd hq |>.symm
          have nr : r ≠ rd := ne_of hr1 hrd fun z => nomatch z
          have na : a ≠ rd := ne_of hf hrd fun z => nomatch z
          refine ⟨_, rfl, r, _, dx, _, _, rfl, by rw [upd_ne nr]; exact s3 _ _ hr1, T.c_Rolling, T.a_Rolling_rounds, r_r, _, rfl, rd, .ref q, rfl, ?_, ?_⟩
          · have := DGet.t (kvs := putK rk f (.ref q)) (k := f) (b := a) (upd_same (H := H3) (a := rd) (o := .dT (putK rk f (.ref q)))) (by rw [upd_ne na]; exact s3 _ _ hf)
            rw [valV_put, if_pos rfl] at this
            exact this
          · have kp : Keep G H (upd H3 rd (.dT (putK rk f (.ref q)))) := fun b o gb eb => by
              have nb : b ≠ rd := fun z => by rw [z, g2] at gb; cases gb
              rw [upd_ne nb]
              exact s3 _ _ eb
            have gq : GZ G Z q := ⟨RI.out hq, fun z => hZ q z hq⟩
            have dq : DistD (upd H3 rd (.dT (putK rk f (.ref q)))) q adj f := ⟨kvs, by rw [upd_ne nq]; exact hq3, nd, klen, hd⟩
            refine k _ q kp (fun b adj' eb => ?_) gq dq
            by_cases z : b = rd
            · subst z
              rw [g2] at eb
              cases eb
              refine ⟨_, upd_same, nodup_new e rnd, keys_in e rF hF, fun x v hx => ?_⟩
              rw [valV_put] at hx
              by_cases ex : x = f
              · rw [if_pos ex] at hx
                cases hx
                rw [ex]
                exact ⟨q, rfl, gq, dq⟩
              · rw [if_neg ex] at hx
                obtain ⟨q', e1, e2, e3⟩ := rv x v hx
                exact ⟨q', e1, e2, e3.keep kp e2.1⟩
            · obtain ⟨kv, h1, h2, h3, h4⟩ := RI b adj' eb
              refine ⟨kv, by rw [upd_ne z]; exact s3 _ _ h1, h2, h3, fun x v hx => ?_⟩
              obtain ⟨q', e1, e2, e3⟩ := h4 x v hx
              exact ⟨q', e1, e2, e3.keep kp e2.1⟩
        | cons l0 ls0 =>
          have hne : line ≠ [] := by rw [hline]; exact fun z => nomatch z
          have lpos : 0 < las.length := by rw [llen, hline]; simp
          rw [← hline]
          refine ifT (by rw [hline]; rfl) ⟨Nat.zero_le _, fun lt hlt => ?_⟩
          have hlt0 : H lt = none := s3.free hlt
          have nlt : ln ≠ lt := ne_of_none hl3 hlt
          have nqt : q ≠ lt := ne_of_none hq3 hlt
          refine ⟨_, rfl, ln, rfl, ⟨_, SqL.of (kept hl3 hlt)⟩, for_it walk_listF (fun i σ H' => ∃ (x5 x6 : Option V) (kvs' : List (Fc × V)) (later : List Fc) (lats : List Addr), σ = [some (.ref r), some (.ref a), some (.ref q), some (.ref ln), some (.ref lt), x5, x6] ∧ Same H H' ∧ H' q = some (.dT kvs') ∧ H' ln = some (.lst (las.map V.ref)) ∧ TupsAt H' las line ∧ H' lt = some (.lst (lats.map V.ref)) ∧ TupsAt H' lats later ∧
              PInv adj f kvs' n later (fun x => ∃ y ∈ line.take i, adj y x) ∧ (kvs'.map (·.1)).Nodup ∧ (∀ x ∈ kvs'.map (·.1), x ∈ F) ∧ kvs'.length = kvs.length + later.length) ⟨_, _, kvs, [], [], rfl, s3.trans (Same.new hlt), kept hq3 hlt, kept hl3 hlt, tl3.tk (TK.new hlt), upd_same, .nil, BI.pinv.imp fun x ⟨y, hy, _⟩ => by simp at hy, nd, kF, by simp⟩ (fun i σ H' _ ⟨_, _, _, _, _, _, _, _, h, _⟩ => SqL.of h) ?_ ?_⟩
          · rintro i x σ H4 H5 hi ⟨x5, x6, kvs', later, lats, rfl, s4, hq4, hl4, tl4, ht4, tt4, PI4, nd4, kF4, len4⟩ ⟨rfl, o, e2, rfl⟩
            obtain ⟨y, e3, hy⟩ := paired_get tl4 e2
            have hym : y ∈ line := List.mem_of_getElem? e3
            have hyd := (BI.line y).mp hym
            refine ⟨_, rfl, r, dx, _, rfl, s4 _ _ hr1, r_no (by decide +kernel) (by decide +kernel) (by decide +kernel) (by decide +kernel) (by decide +kernel), _, rfl, r, o, nx, rd, y, F, adj, rfl, B.kn (Kn.same s4) (fun o e => s4 _ _ e), hy, OF, fun H6 nl gs s6 hnl ⟨nas, hn6, tn6⟩ hg hgl => ?_⟩
            have nnl : nl ≠ lt := (ne_of_none ht4 hnl).symm
            refine ⟨nl, rfl, ⟨_, SqL.of hn6⟩, for_it walk_listF (fun j σ H' => ∃ (x6 : Option V) (kvs' : List (Fc × V)) (later : List Fc) (lats : List Addr), σ = [some (.ref r), some (.ref a), some (.ref q), some (.ref ln), some (.ref lt), some (.ref o), x6] ∧ Same H H' ∧ H' q = some (.dT kvs') ∧ H' ln = some (.lst (las.map V.ref)) ∧ TupsAt H' las line ∧ H' lt = some (.lst (lats.map V.ref)) ∧ TupsAt H' lats later ∧ H' nl = some (.lst (nas.map V.ref)) ∧ TupsAt H' nas gs ∧
                PInv adj f kvs' n later (fun x => (∃ y ∈ line.take i, adj y x) ∨ x ∈ gs.take j) ∧ (kvs'.map (·.1)).Nodup ∧ (∀ x ∈ kvs'.map (·.1), x ∈ F) ∧ kvs'.length = kvs.length + later.length)
              ⟨_, kvs', later, lats, rfl, s4.trans s6, s6 _ _ hq4, s6 _ _ hl4, tl4.tk (TK.same s6), s6 _ _ ht4, tt4.tk (TK.same s6), hn6, tn6, PI4.imp fun x hx => hx.elim id fun h => by simp at h, nd4, kF4, len4⟩ (fun j σ H' _ ⟨_, _, _, _, _, _, _, _, _, _, _, h, _⟩ => SqL.of h) ?_ ?_⟩
            · rintro j x σ H7 H8 hj ⟨x6, kvs7, later7, lats7, rfl, s7, hq7, hl7, tl7, ht7, tt7, hn7, tn7, PI7, nd7, kF7, len7⟩ ⟨rfl, b, e7, rfl⟩
              obtain ⟨g, e8, hg8⟩ := paired_get tn7 e7
              have hgm : g ∈ gs := List.mem_of_getElem? e8
              have hag := (hg g).mp hgm
              have stepP : ∀ x, ((∃ y ∈ line.take i, adj y x) ∨ x ∈ gs.take (j + 1)) → (((∃ y ∈ line.take i, adj y x) ∨ x ∈ gs.take j) ∨ x = g) := fun x hx => by
                rcases hx with hx | hx
                · exact .inl (.inl hx)
                · rw [List.take_add_one, e8] at hx
                  rcases List.mem_append.mp hx with hx | hx
                  · exact .inl (.inr hx)
                  · exact .inr (List.mem_singleton.mp hx)
              refine ⟨_, rfl, _, rfl, q, _, rfl, DGet.t hq7 hg8, _, rfl, ?_⟩
              cases e9 : valV kvs7 g with
              | some v => exact ifF rfl ⟨_, kvs7, later7, lats7, rfl, s7, hq7, hl7, tl7, ht7, tt7, hn7, tn7, (PI7.seen1 (by rw [e9]; exact fun z => nomatch z)).imp stepP, nd7, kF7, len7⟩
              | none =>
                have hyv : valV kvs7 y = some (.int n) := (PI7.val y _).mpr (.inl ⟨n, Nat.le_refl _, rfl, hyd⟩)
                have kl7 := keys_len OF nd7 kF7
                have hy7 : TupF H8 o y := by
                  obtain ⟨y', e3', hy'⟩ := paired_get tl7 e2
                  rw [e3] at e3'
                  cases e3'
                  exact hy'
                have dg : DGet H8 q (.ref o) (some (.int n)) := by
                  rw [← hyv]
                  exact DGet.t hq7 hy7
                refine ifT rfl ⟨_, rfl, _, rfl, q, _, rfl, dg, _, _, rfl, rfl, _, rfl, _, rfl, q, _, rfl, DPut.t hq7 hg8 (small9 (by omega)), ?_⟩
                have nql : ln ≠ q := ne_of hl7 hq7 fun z => nomatch z
                have nqn : nl ≠ q := ne_of hn7 hq7 fun z => nomatch z
                have ntq : lt ≠ q := nqt.symm
                have ht9 : upd H8 q (.dT (putK kvs7 g (.int ((n : Int) + 1)))) lt = some (.lst (lats7.map V.ref)) := by rw [upd_ne ntq]; exact ht7
                have k9 : TK H8 (upd (upd H8 q (.dT (putK kvs7 g (.int ((n : Int) + 1))))) lt (.lst (lats7.map V.ref ++ [V.ref b]))) := (TK.dT hq7).trans (TK.lst ht9)
                refine ⟨_, rfl, .inl ⟨rfl, _, SqL.of ht9⟩, _, rfl, lt, _, _, rfl, rfl, ht9, by rw [List.length_map, Paired.length tt7]; exact small9 (by omega), ?_⟩
                refine ⟨_, putK kvs7 g (.int ((n : Int) + 1)), later7 ++ [g], lats7 ++ [b], rfl, fun c u ec => ?_, ?_, ?_, tl7.tk k9, by rw [upd_same, List.map_append]; rfl, (tt7.tk k9).snoc (k9 _ _ hg8), ?_, tn7.tk k9, (PI7.add hyd hag e9).imp stepP, nodup_new e9 nd7, keys_in e9 kF7 (hmF _ _ hag).2, ?_⟩
                · rw [upd_ne (ne_of_none ec hlt0), upd_ne (ne_of_none ec hq)]
                  exact s7 _ _ ec
                · rw [upd_ne nqt, upd_same]
                · rw [upd_ne nlt, upd_ne nql]
                  exact hl7
                · rw [upd_ne nnl, upd_ne nqn]
                  exact hn7
                · rw [putK_new _ e9, List.length_append, List.length_append, len7]
                  simp only [List.length_cons, List.length_nil]
                  omega
            · rintro σ H7 ⟨x6, kvs7, later7, lats7, rfl, s7, hq7, hl7, tl7, ht7, tt7, hn7, tn7, PI7, nd7, kF7, len7⟩
              refine ⟨_, _, kvs7, later7, lats7, rfl, s7, hq7, hl7, tl7, ht7, tt7, PI7.imp fun x ⟨y', hy', hx⟩ => ?_, nd7, kF7, len7⟩
              rw [List.take_add_one, e3] at hy'
              rcases List.mem_append.mp hy' with hy' | hy'
              · exact .inl ⟨y', hy', hx⟩
              · have e5 : y' = y := List.mem_singleton.mp hy'
                subst e5
                have ln2 : nas.length = gs.length := Paired.length tn7
                rw [ln2, List.take_length]
                exact .inr ((hg x).mpr hx)
          · rintro σ H4 ⟨x5, x6, kvs', later, lats, rfl, s4, hq4, hl4, tl4, ht4, tt4, PI4, nd4, kF4, len4⟩
            rw [llen, List.take_length] at PI4
            have kl4 := keys_len OF nd4 kF4
            refine ⟨_, rfl, ⟨lt, _, _, _, kvs', n + 1, later, lats, rfl, s4, hlt0, hq4, ht4, tt4, PI4.next BI.line, nd4, kF4⟩, ?_⟩
            rw [hmu]
            show muB [some (.ref r), some (.ref a), some (.ref q), some (.ref lt), some (.ref lt), x5, x6] H4 < _
            rw [muB_eq hq4 ht4]
            have hle : (las.map V.ref).isEmpty = false := by
              cases las with
              | nil => simp at lpos
              | cons _ _ => rfl
            have hlt2 : lats.length = later.length := Paired.length tt4
            rw [hle]
            cases lats with
            | nil =>
              rw [len4, ← hlt2]
              show 2 * (601 - (kvs.length + 0)) + 0 < 2 * (601 - kvs.length) + 1
              omega
            | cons u us =>
              rw [len4, ← hlt2]
              show 2 * (601 - (kvs.length + (us.length + 1))) + 1 < 2 * (601 - kvs.length) + 1
              rw [List.length_cons] at hlt2
              omega
      · rintro σ H1 Q1 Q2 F' ⟨v, e1, h1, h2⟩
        exact ⟨v, e1, h1, fun z hz => let ⟨d1, d2, a1, a2, a3, a4, k1, k2, q1⟩ := h2 z hz; ⟨d1, d2, a1, a2, a3, a4, k1, k2, F' _ _ q1⟩⟩
end
end Wm
end
section
set_option Elab.async false
set_option linter.all false
set_option maxRecDepth 100000
set_option maxHeartbeats 4000000
/-! A rolling made: walked. -/
namespace Wm
open PySem PySem.Spec PyProof.Rows L2 WmM
set_option autoImplicit false
/-- all but what stands at p is kept -/
def NP (p : Addr) (H H' : Hp) : Prop := ∀ b o, b ≠ p → H b = some o → H' b = some o
theorem NP.refl (p : Addr) (H : Hp) : NP p H H := fun _ _ _ e => e
theorem NP.same {p : Addr} {H H1 H2 : Hp} (a : NP p H H1) (s : Same H1 H2) : NP p H H2 := fun b o n e => s _ _ (a b o n e)
theorem NP.put {p : Addr} {H H1 : Hp} {o : HO} (a : NP p H H1) : NP p H (upd H1 p o) := fun b u n e => by
  rw [upd_ne n]
  exact a b u n e
theorem NP.new {p l : Addr} {H H1 : Hp} {o : HO} (a : NP p H H1) (h : H l = none) : NP p H (upd H1 l o) := fun b u n e => by
  rw [upd_ne (ne_of_none e h)]
  exact a b u n e
theorem ShopAt.np {K : PySem.W.Frag} {H H' : Hp} {p sh C dx : Addr} {S : Shp} (k : NP p H H') (hp : H p = some (.ins C dx [])) (h : ShopAt K H sh S) : ShopAt K H' sh S := by
  obtain ⟨ll, dx', ld, as, h1, h2, h3, h4⟩ := h
  have n1 : sh ≠ p := fun z => by rw [z, hp] at h1; cases h1
  have n2 : ld ≠ p := ne_of h2 hp fun z => nomatch z
  have n4 : ll ≠ p := ne_of h4 hp fun z => nomatch z
  refine ⟨ll, dx', ld, as, k _ _ n1 h1, k _ _ n2 h2, paired_imp (fun a d ⟨y, e⟩ => ⟨y, k _ _ (fun z => ?_) e⟩) h3, k _ _ n4 h4⟩
  rw [z, hp] at e
  have e := Option.some.inj e
  injection e with _ _ e
  cases e
theorem PliesAt.np {H H' : Hp} {p l C dx : Addr} {ps : List Ply} (k : NP p H H') (hp : H p = some (.ins C dx [])) (h : PliesAt H l ps) : PliesAt H' l ps := by
  obtain ⟨as, h1, h2⟩ := h
  exact ⟨as, k _ _ (ne_of h1 hp fun z => nomatch z) h1, paired_imp (fun a (f : Fc) (e : H a = some (.tup (f.map kV))) => k _ _ (ne_of e hp fun z => nomatch z) e) h2⟩
theorem NextsI.start {H0 H : Hp} {nx l' : Addr} (h : H nx = some (.dT [])) : NextsI H0 H nx l' [] (fun _ => []) := ⟨h, fun k v e => (by rw [valV_nil] at e; cases e), fun _ _ => rfl, fun k k' l e => (by rw [valV_nil] at e; cases e)⟩
theorem NextsI.same {H0 H H' : Hp} {nx l' : Addr} {kvs : List (Fc × V)} {m : Fc → List Fc} (s : Same H H') (I : NextsI H0 H nx l' kvs m) : NextsI H0 H' nx l' kvs m := ⟨s _ _ I.at_, fun k v hk => let ⟨l, e1, e2, e3⟩ := I.val k v hk; ⟨l, e1, e2.kn (Kn.same s), e3⟩, I.nil, I.inj⟩
/-- what stands while the lists grow -/
structure GI (K : PySem.W.Frag) (H0 H : Hp) (p dx : Addr) (d : Int) (a l nx rd l' : Addr) (qs : List Addr) (prs : List (Fc × Fc)) (kvs : List (Fc × V)) (m : Fc → List Fc) : Prop where
  np : NP p H0 H
  hp : H p = some (.ins (He.ga K "Rolling") dx (fsR d a l nx rd))
  hr : H rd = some (.dT [])
  hl : H l' = some (.lst (qs.map V.ref))
  pq : PairsAt H qs prs
  ni : NextsI H0 H nx l' kvs m
  nx0 : H0 nx = none
  ne : nx ≠ rd
theorem GI.old {K : PySem.W.Frag} {H0 H : Hp} {p dx : Addr} {d : Int} {a l nx rd l' : Addr} {qs : List Addr} {prs : List (Fc × Fc)} {kvs : List (Fc × V)} {m : Fc → List Fc} (I : GI K H0 H p dx d a l nx rd l' qs prs kvs m) {z l1 b : Addr} {f g : Fc} {ws : List V} (hz : H z = none)
    (hv : valV kvs f = some (.ref l1)) (h1 : H l1 = some (.lst ws)) (hb : TupF H b g) : GI K H0 (upd (upd H z (.lst [])) l1 (.lst (ws ++ [.ref b]))) p dx d a l nx rd l' qs prs kvs (addM m f g) := by
  obtain ⟨l2, e, _, h2, h3, _⟩ := I.ni.val f _ hv
  cases e
  have s1 : Same H (upd H z (.lst [])) := Same.new hz
  have h1' := s1 _ _ h1
  have n1 : p ≠ l1 := ne_of I.hp h1 fun z => nomatch z
  have n2 : rd ≠ l1 := ne_of I.hr h1 fun z => nomatch z
  exact ⟨(I.np.same s1).new h2, by rw [upd_ne n1]; exact s1 _ _ I.hp, by rw [upd_ne n2]; exact s1 _ _ I.hr, by rw [upd_ne h3.symm]; exact s1 _ _ I.hl, (I.pq.tk (TK.same s1)).tk (TK.lst h1'), (I.ni.same s1).old hv h1' (s1 _ _ hb), I.nx0, I.ne⟩
theorem GI.new {K : PySem.W.Frag} {H0 H : Hp} {p dx : Addr} {d : Int} {a l nx rd l' : Addr} {qs : List Addr} {prs : List (Fc × Fc)} {kvs : List (Fc × V)} {m : Fc → List Fc} (I : GI K H0 H p dx d a l nx rd l' qs prs kvs m) {z b : Addr} {f g : Fc} (hz : H z = none)
    (hv : valV kvs f = none) (hb : TupF H b g) : GI K H0 (upd (upd (upd H z (.lst [])) nx (.dT (putK kvs f (.ref z)))) z (.lst [.ref b])) p dx d a l nx rd l' qs prs (putK kvs f (.ref z)) (addM m f g) := by
  have n0 : p ≠ z := ne_of_none I.hp hz
  have n1 : rd ≠ z := ne_of_none I.hr hz
  have n2 : l' ≠ z := ne_of_none I.hl hz
  have n3 : p ≠ nx := ne_of I.hp I.ni.at_ fun z => nomatch z
  have n4 : l' ≠ nx := ne_of I.hl I.ni.at_ fun z => nomatch z
  have nxz : nx ≠ z := ne_of_none I.ni.at_ hz
  have z0 : H0 z = none := by
    cases q : H0 z with
    | none => rfl
    | some o =>
      have := I.np z o n0.symm q
      rw [hz] at this
      cases this
  have h3 : upd (upd H z (.lst [])) nx (.dT (putK kvs f (.ref z))) z = some (.lst []) := by rw [upd_ne nxz.symm, upd_same]
  have k : TK H (upd (upd (upd H z (.lst [])) nx (.dT (putK kvs f (.ref z)))) z (.lst [.ref b])) := ((TK.new hz).trans (TK.dT (kept I.ni.at_ hz))).trans (TK.lst h3)
  exact ⟨((I.np.new z0).new I.nx0).new z0, by rw [upd_ne n0, upd_ne n3, upd_ne n0]; exact I.hp, by rw [upd_ne n1, upd_ne I.ne.symm, upd_ne n1]; exact I.hr, by rw [upd_ne n2, upd_ne n4, upd_ne n2]; exact I.hl, I.pq.tk k, I.ni.new hv hz z0 n2.symm hb, I.nx0, I.ne⟩
theorem addM_mem {m : Fc → List Fc} {f g k x : Fc} : x ∈ addM m f g k ↔ x ∈ m k ∨ (k = f ∧ x = g) := by
  unfold addM
  by_cases e : k = f
  · rw [if_pos e, List.mem_append, List.mem_singleton]
    exact ⟨fun h => h.elim .inl fun h => .inr ⟨e, h⟩, fun h => h.elim .inl fun h => .inr h.2⟩
  · rw [if_neg e]
    exact ⟨.inl, fun h => h.elim id fun h => absurd h.1 e⟩
theorem addM_len {m : Fc → List Fc} {f g k : Fc} : (addM m f g k).length ≤ (m k).length + 1 := by
  unfold addM
  by_cases e : k = f
  · rw [if_pos e, List.length_append]
    exact Nat.le_refl _
  · rw [if_neg e]
    omega
def sp_Rolling_init (K : PySem.W.Frag) : Sp := fun vs H Q _ => ∃ (p dx sh lp : Addr) (d : Int) (S : Shp) (ps : List Ply), vs = [.ref p, .ref sh, .int d, .ref lp] ∧ H p = some (.ins (He.ga K "Rolling") dx []) ∧ ShopAt K H sh S ∧ ShpOk S ∧ PliesAt H lp ps ∧ PliesOk S ps ∧ 0 ≤ d ∧ d < S.ds.length ∧
  ∀ H' nx rd, NP p H H' → H nx = none → H rd = none → nx ≠ rd → H' rd = some (.dT []) → RollB K (facesOf S) H' p nx rd (AdjOf S d ps) → Q .non H'
theorem lkRoll {m : Str} {x : V} {r : List (Str × V)} : List.lookup m ((m, x) :: r) = some x := look0
section
variable {P : Program} {w : World} {K : PySem.W.Frag} {mg : Str → Option Value} {base : Heap}
theorem ok_Rolling_init (T : Tx K mg) : Dn P w K mg base 7 (He.ma K (He.ga K "Rolling") "__init__") ["self", "shop", "drum", "plies"] (sp_Rolling_init K) := by
  refine dn_of T.F_Rolling_init sc_Rolling_init (fun _ _ _ _ _ _ us hl => match us, hl with | [_, _, _, _], _ => rfl) (fun vs H Q E h => ?_) (fun cdv A outer s H vs Q E hr h => ?_)
  · obtain ⟨_, _, _, _, _, _, _, rfl, _⟩ := h
    rfl
  · obtain ⟨p, dx, sh, lp, d, S, ps, rfl, hp, hS, O, hl, OP, d0, d1, k⟩ := h
    refine ⟨_, (pss_cons (ps_fld (pv 0) (pv 2) rfl) (pss_cons (ps_fld (pv 0) (pe_ix ix_list (pe_fld (pv 1) rfl) (pv 2) (fun _ _ => rfl)) rfl) (pss_cons (ps_fld (pv 0) (pc (ok_layers_of T) hr rfl T.g_layers_of (pa_cons (pv 1) (pa_cons (pv 3) pa_nil))) rfl) (pss_cons (ps_fld (pv 0) pe_dnewT rfl) (pss_cons (ps_fld (pv 0) pe_dnewT rfl) (pss_one (ps_for PassesOwn.never rfl (pi_list (pm0 (pv 0) T.c_Rolling T.t_Rolling_pairs (ok_Rolling_pairs T) hr)) (pg_tup (by rfl) (pgs_cons (pg_name (i := 4) sc_Rolling_init.nd rfl (.inl rfl)) (pgs_cons (pg_name (i := 5) sc_Rolling_init.nd rfl (.inl rfl)) pgs_nil))) (pss_cons (ps_expr (pe_bm PySem.F.plainAttrs_list PySem.F.slot_list_append PySem.F.type_list_append mt_append (pe_setdT (hu_of hr) (pe_fld (pv 0) rfl) (pv 4) (pe_lst pa_nil) ⟨rfl, rfl, rfl, rfl⟩) (pa_cons (pv 5) pa_nil))) (pss_one (ps_expr (pe_bm PySem.F.plainAttrs_list PySem.F.slot_list_append PySem.F.type_list_append mt_append (pe_setdT (hu_of hr) (pe_fld (pv 0) rfl) (pv 5) (pe_lst pa_nil) ⟨rfl, rfl, rfl, rfl⟩) (pa_cons (pv 4) pa_nil)))))))))))), ?_⟩
    -- self.drum_at = drum
    refine ⟨_, rfl, _, rfl, p, _, dx, [], rfl, hp, T.c_Rolling, T.a_Rolling_drum_at, (by show 0 < 1000; decide), ?_⟩
    rw [putF0]
    have k1 : NP p H (upd H p (.ins (He.ga K "Rolling") dx [("drum_at", .int d)])) := (NP.refl p H).put
    have hp1 : upd H p (.ins (He.ga K "Rolling") dx [("drum_at", .int d)]) p = some (.ins (He.ga K "Rolling") dx [("drum_at", .int d)]) := upd_same
    generalize upd H p (.ins (He.ga K "Rolling") dx [("drum_at", .int d)]) = H1 at k1 hp1 ⊢
    -- self.roller = shop.rollers[drum]
    obtain ⟨ll, dxs, ld, as, hs1, hs2, hs3, hs4⟩ := hS.np k1 hp
    have hi : d.toNat < S.ds.length := by omega
    have ed : ((d.toNat : Nat) : Int) = d := Int.toNat_of_nonneg d0
    have las : as.length = S.ds.length := Paired.length hs3
    obtain ⟨a, ea⟩ : ∃ a, as[d.toNat]? = some a := ⟨_, List.getElem?_eq_getElem (by omega)⟩
    obtain ⟨fs, e2, hD⟩ := paired_get hs3 ea
    have efs : S.ds.getD d.toNat (0, 0) = fs := by rw [List.getD_eq_getElem?_getD, e2]; rfl
    have at1 : atI (as.map V.ref) d = some (.ref a) := by
      rw [← ed]
      refine atI_nat ?_
      rw [List.getElem?_map, ea]
      rfl
    refine ⟨_, rfl, sh, _, dxs, _, _, rfl, hs1, T.c_Shop, T.a_Shop_rollers, lkR, _, rfl, ld, _, d, _, rfl, rfl, SqL.of hs2, at1, _, rfl, p, _, dx, _, rfl, hp1, T.c_Rolling, T.a_Rolling_roller, (by show 1 < 1000; decide), ?_⟩
    rw [putF1 (by decide +kernel), putF0]
    have k2 := k1.put (o := .ins (He.ga K "Rolling") dx [("drum_at", .int d), ("roller", .ref a)])
    have hp2 : upd H1 p (.ins (He.ga K "Rolling") dx [("drum_at", .int d), ("roller", .ref a)]) p = some (.ins (He.ga K "Rolling") dx [("drum_at", .int d), ("roller", .ref a)]) := upd_same
    have hD2 : DrumAt K (upd H1 p (.ins (He.ga K "Rolling") dx [("drum_at", .int d), ("roller", .ref a)])) a fs.1 fs.2 := by
      obtain ⟨y, e⟩ := hD
      refine ⟨y, ?_⟩
      rw [upd_ne fun z => ?_]
      · exact e
      · rw [z, hp1] at e
        have e := Option.some.inj e
        injection e with _ _ e
        have e3 : ([("drum_at", V.int d)] : List (Str × V)).length = (fsD fs.1 fs.2).length := by rw [e]
        simp at e3
    generalize upd H1 p (.ins (He.ga K "Rolling") dx [("drum_at", .int d), ("roller", .ref a)]) = H2 at k2 hp2 hD2 ⊢
    -- self.layers = layers_of(shop, plies)
    refine ⟨_, rfl, _, rfl, sh, lp, S, ps, rfl, hS.np k2 hp, O, hl.np k2 hp, OP, fun H3 l s3 hL => ?_⟩
    have k3 := k2.same s3
    have hp3 := s3 _ _ hp2
    refine ⟨_, rfl, p, _, dx, _, rfl, hp3, T.c_Rolling, T.a_Rolling_layers, (by show 2 < 1000; decide), ?_⟩
    rw [putF1 (by decide +kernel), putF1 (by decide +kernel), putF0]
    have k4 := k3.put (o := .ins (He.ga K "Rolling") dx [("drum_at", .int d), ("roller", .ref a), ("layers", .ref l)])
    have hp4 : upd H3 p (.ins (He.ga K "Rolling") dx [("drum_at", .int d), ("roller", .ref a), ("layers", .ref l)]) p = some (.ins (He.ga K "Rolling") dx [("drum_at", .int d), ("roller", .ref a), ("layers", .ref l)]) := upd_same
    have kn4 : ∀ b o, b ≠ p → H3 b = some o → upd H3 p (.ins (He.ga K "Rolling") dx [("drum_at", .int d), ("roller", .ref a), ("layers", .ref l)]) b = some o := fun b o n e => by rw [upd_ne n]; exact e
    generalize upd H3 p (.ins (He.ga K "Rolling") dx [("drum_at", .int d), ("roller", .ref a), ("layers", .ref l)]) = H4 at k4 hp4 kn4 ⊢
    -- self.nexts = {}
    refine fun nx hnx => ⟨_, rfl, p, _, dx, _, rfl, kept hp4 hnx, T.c_Rolling, T.a_Rolling_nexts, (by show 3 < 1000; decide), ?_⟩
    have npx : p ≠ nx := ne_of_none hp4 hnx
    have hnx0 : H nx = none := by
      cases q : H nx with
      | none => rfl
      | some o =>
        have := k4 nx o npx.symm q
        rw [hnx] at this
        cases this
    rw [putF1 (by decide +kernel), putF1 (by decide +kernel), putF1 (by decide +kernel), putF0]
    generalize hH5 : upd (upd H4 nx (.dT [])) p (.ins (He.ga K "Rolling") dx [("drum_at", .int d), ("roller", .ref a), ("layers", .ref l), ("nexts", .ref nx)]) = H5
    have k5 : NP p H H5 := by
      rw [← hH5]
      exact (k4.new hnx0).put
    have hp5 : H5 p = some (.ins (He.ga K "Rolling") dx [("drum_at", .int d), ("roller", .ref a), ("layers", .ref l), ("nexts", .ref nx)]) := by rw [← hH5]; exact upd_same
    have hx5 : H5 nx = some (.dT []) := by rw [← hH5, upd_ne npx.symm]; exact upd_same
    have kn5 : ∀ b o, b ≠ p → H4 b = some o → H5 b = some o := fun b o n e => by rw [← hH5, upd_ne n]; exact kept e hnx
    -- self.rounds = {}
    refine fun rd hrd => ⟨_, rfl, p, _, dx, _, rfl, kept hp5 hrd, T.c_Rolling, T.a_Rolling_rounds, (by show 4 < 1000; decide), ?_⟩
    have npr : p ≠ rd := ne_of_none hp5 hrd
    have nxr : nx ≠ rd := ne_of_none hx5 hrd
    have hrd0 : H rd = none := by
      cases q : H rd with
      | none => rfl
      | some o =>
        have := k5 rd o npr.symm q
        rw [hrd] at this
        cases this
    rw [putF1 (by decide +kernel), putF1 (by decide +kernel), putF1 (by decide +kernel), putF1 (by decide +kernel), putF0]
    generalize hH6 : upd (upd H5 rd (.dT [])) p (.ins (He.ga K "Rolling") dx [("drum_at", .int d), ("roller", .ref a), ("layers", .ref l), ("nexts", .ref nx), ("rounds", .ref rd)]) = H6
    have k6 : NP p H H6 := by
      rw [← hH6]
      exact (k5.new hrd0).put
    have hp6 : H6 p = some (.ins (He.ga K "Rolling") dx (fsR d a l nx rd)) := by rw [← hH6]; exact upd_same
    have hr6 : H6 rd = some (.dT []) := by rw [← hH6, upd_ne npr.symm]; exact upd_same
    have kn6 : ∀ b o, b ≠ p → H5 b = some o → H6 b = some o := fun b o n e => by rw [← hH6, upd_ne n]; exact kept e hrd
    have hx6 : H6 nx = some (.dT []) := kn6 _ _ npx.symm hx5
    have kn36 : ∀ b o, b ≠ p → H3 b = some o → H6 b = some o := fun b o n e => kn6 _ _ n (kn5 _ _ n (kn4 _ _ n e))
    have hL6 : LayersAt H6 l (layersOf S ps) := by
      obtain ⟨as', h1, h2⟩ := hL
      refine ⟨as', kn36 _ _ (ne_of h1 hp3 fun z => nomatch z) h1, paired_imp (fun b L ⟨qs, h3, h4⟩ => ⟨qs, kn36 _ _ (ne_of h3 hp3 fun z => nomatch z) h3, PairsAt.tk (fun c xs hc => kn36 _ _ (ne_of hc hp3 fun z => nomatch z) hc) h4⟩) h2⟩
    have nap : a ≠ p := fun z => by
      obtain ⟨y, e⟩ := hD2
      rw [z, hp2] at e
      have e := Option.some.inj e
      injection e with _ _ e
      have e4 := congrArg (List.lookup ("least" : Str)) e
      rw [lkL, look1 (by decide +kernel), look1 (by decide +kernel)] at e4
      cases e4
    have hD6 : DrumAt K H6 a fs.1 fs.2 := by
      obtain ⟨y, e⟩ := hD2
      exact ⟨y, kn36 _ _ nap (s3 _ _ e)⟩
    refine ⟨_, rfl, p, dx, _, rfl, hp6, r_no (by decide +kernel) (by decide +kernel) (by decide +kernel) (by decide +kernel) (by decide +kernel), p, d, a, l, nx, rd, S, ps, rfl, ⟨dx, hp6⟩, by rw [efs]; exact hD6, O, OP, d0, d1, hL6, fun H7 l' prs s7 hl' ⟨qs, hq7, pq7⟩ plen padj pin => ?_⟩
    have k7 := k6.same s7
    have lq : qs.length = prs.length := Paired.length pq7
    have npl' : p ≠ l' := ne_of_none hp6 hl'
    have nrl' : rd ≠ l' := ne_of_none hr6 hl'
    refine ⟨l', rfl, ⟨_, SqL.of hq7⟩, for_it walk_listF (fun i σ H' => (∃ x y, σ = [some (.ref p), some (.ref sh), some (.int d), some (.ref lp), x, y]) ∧ ∃ kvs m, GI K H H' p dx d a l nx rd l' qs prs kvs m ∧ kvs.length ≤ 2 * i ∧ (∀ k, (m k).length ≤ 2 * i) ∧ ∀ k g, g ∈ m k ↔ ((k, g) ∈ prs.take i ∨ (g, k) ∈ prs.take i))
      ⟨⟨_, _, rfl⟩, [], fun _ => [], ⟨k7, s7 _ _ hp6, s7 _ _ hr6, hq7, pq7, NextsI.start (s7 _ _ hx6), hnx0, nxr⟩, Nat.le_refl _, fun _ => Nat.zero_le _, fun k g => by simp⟩ (fun i σ H' _ ⟨_, _, _, G, _⟩ => SqL.of G.hl) ?_ ?_⟩
    · rintro i x σ H8 H9 hi ⟨⟨x4, x5, rfl⟩, kvs, m, G8, kl, ml, mem⟩ ⟨rfl, q, e5, rfl⟩
      obtain ⟨⟨f, g⟩, e6, fa, ga, hq9, hfa, hga⟩ := paired_get G8.pq e5
      have hi2 : i < 2000 := by omega
      refine ⟨q, _, rfl, SqT.of hq9, rfl, _, _, rfl, _, _, rfl, rfl, ?_⟩
      -- behind the first push
      have second : ∀ (H10 : Hp) (kvs1 : List (Fc × V)), TK H9 H10 → GI K H H10 p dx d a l nx rd l' qs prs kvs1 (addM m f g) → kvs1.length ≤ kvs.length + 1 → ∀ z, H10 z = none → ∀ (Qz : Hp → Prop), (∀ H11 kvs2, GI K H H11 p dx d a l nx rd l' qs prs kvs2 (addM (addM m f g) g f) → kvs2.length ≤ kvs.length + 2 → Qz H11) →
          (∀ v, valV kvs1 g = some v → ∃ l1 ws, v = .ref l1 ∧ upd H10 z (.lst []) l1 = some (.lst ws) ∧ ws.length ≤ 2 * i + 1 ∧ Qz (upd (upd H10 z (.lst [])) l1 (.lst (ws ++ [.ref fa])))) ∧ (valV kvs1 g = none → Qz (upd (upd (upd H10 z (.lst [])) nx (.dT (putK kvs1 g (.ref z)))) z (.lst [.ref fa]))) := by
        intro H10 kvs1 tk G10 kl1 z hz Qz hQ
        refine ⟨fun v hv => ?_, fun hv => hQ _ _ (G10.new hz hv (tk _ _ hfa)) ?_⟩
        · obtain ⟨l1, e, ⟨as1, h1, h2⟩, _⟩ := G10.ni.val g v hv
          subst e
          have h3 := addM_len (m := m) (f := f) (g := g) (k := g)
          have h4 := ml g
          have h5 : as1.length = (addM m f g g).length := Paired.length h2
          exact ⟨l1, _, rfl, kept h1 hz, by rw [List.length_map]; omega, hQ _ _ (G10.old hz hv h1 (tk _ _ hfa)) (by omega)⟩
        · have := length_putK kvs1 g (V.ref z)
          omega
      have third : ∀ H11 kvs2, GI K H H11 p dx d a l nx rd l' qs prs kvs2 (addM (addM m f g) g f) → kvs2.length ≤ kvs.length + 2 → (∃ x y, ([some (.ref p), some (.ref sh), some (.int d), some (.ref lp), some (.ref fa), some (.ref ga)] : L2.St) = [some (.ref p), some (.ref sh), some (.int d), some (.ref lp), x, y]) ∧ ∃ kvs m, GI K H H11 p dx d a l nx rd l' qs prs kvs m ∧ kvs.length ≤ 2 * (i + 1) ∧ (∀ k, (m k).length ≤ 2 * (i + 1)) ∧ ∀ k g, g ∈ m k ↔ ((k, g) ∈ prs.take (i + 1) ∨ (g, k) ∈ prs.take (i + 1)) := by
        intro H11 kvs2 G11 kl2
        refine ⟨⟨_, _, rfl⟩, kvs2, _, G11, by omega, fun k => ?_, fun k x => ?_⟩
        · have h1 := addM_len (m := addM m f g) (f := g) (g := f) (k := k)
          have h2 := addM_len (m := m) (f := f) (g := g) (k := k)
          have h3 := ml k
          omega
        · rw [addM_mem, addM_mem, mem, List.take_add_one, e6]
          simp only [List.mem_append, Option.toList_some, List.mem_singleton, Prod.mk.injEq]
          constructor
          · rintro (((h | h) | ⟨rfl, rfl⟩) | ⟨rfl, rfl⟩)
            · exact .inl (.inl h)
            · exact .inr (.inl h)
            · exact .inl (.inr ⟨rfl, rfl⟩)
            · exact .inr (.inr ⟨rfl, rfl⟩)
          · rintro ((h | ⟨rfl, rfl⟩) | (h | ⟨rfl, rfl⟩))
            · exact .inl (.inl (.inl h))
            · exact .inl (.inr ⟨rfl, rfl⟩)
            · exact .inl (.inl (.inr h))
            · exact .inr ⟨rfl, rfl⟩
      refine ⟨_, rfl, p, _, dx, _, _, rfl, G8.hp, T.c_Rolling, T.a_Rolling_nexts, r_n, nx, rfl, .inr ⟨_, .of G8.ni.at_⟩, _, rfl, Nat.zero_le _, fun z hz => ⟨_, f, fa, kept G8.ni.at_ hz, rfl, kept hfa hz, small9 (by omega), fun v hv => ?_, fun hv => ?_⟩⟩
      · obtain ⟨l1, e, ⟨as1, h1, h2⟩, _⟩ := G8.ni.val f v hv
        subst e
        have h5 : as1.length = (m f).length := Paired.length h2
        have h6 := ml f
        have h1' := kept (o := .lst []) h1 hz
        refine ⟨.inl ⟨rfl, _, SqL.of h1'⟩, _, rfl, l1, _, _, rfl, rfl, h1', by rw [List.length_map]; exact small9 (by omega), ?_⟩
        have G10 := G8.old hz hv h1 hga
        have tk : TK H9 (upd (upd H9 z (.lst [])) l1 (.lst (as1.map V.ref ++ [.ref ga]))) := (TK.new hz).trans (TK.lst h1')
        generalize upd (upd H9 z (.lst [])) l1 (.lst (as1.map V.ref ++ [.ref ga])) = H10 at G10 tk ⊢
        refine ⟨_, rfl, p, _, dx, _, _, rfl, G10.hp, T.c_Rolling, T.a_Rolling_nexts, r_n, nx, rfl, .inr ⟨_, .of G10.ni.at_⟩, _, rfl, Nat.zero_le _, fun z hz => ⟨_, g, ga, kept G10.ni.at_ hz, rfl, kept (tk _ _ hga) hz, small9 (by omega), fun v hv => ?_, fun hv => ?_⟩⟩
        · obtain ⟨l2, ws, e, h3, h4, q⟩ := (second H10 kvs tk G10 (by omega) z hz _ third).1 v hv
          subst e
          exact ⟨.inl ⟨rfl, _, SqL.of h3⟩, _, rfl, l2, _, _, rfl, rfl, h3, small9 (by omega), q⟩
        · have q := (second H10 kvs tk G10 (by omega) z hz _ third).2 hv
          have h3 : upd (upd H10 z (.lst [])) nx (.dT (putK kvs g (.ref z))) z = some (.lst []) := by rw [upd_ne (ne_of_none G10.ni.at_ hz).symm, upd_same]
          exact ⟨.inl ⟨rfl, _, SqL.of h3⟩, _, rfl, z, _, _, rfl, rfl, h3, small9 (Nat.zero_le _), q⟩
      · have h3 : upd (upd H9 z (.lst [])) nx (.dT (putK kvs f (.ref z))) z = some (.lst []) := by rw [upd_ne (ne_of_none G8.ni.at_ hz).symm, upd_same]
        refine ⟨.inl ⟨rfl, _, SqL.of h3⟩, _, rfl, z, _, _, rfl, rfl, h3, small9 (Nat.zero_le _), ?_⟩
        have G10 := G8.new hz hv hga
        have tk : TK H9 (upd (upd (upd H9 z (.lst [])) nx (.dT (putK kvs f (.ref z)))) z (.lst ([] ++ [.ref ga]))) := ((TK.new hz).trans (TK.dT (kept G8.ni.at_ hz))).trans (TK.lst h3)
        have kl1 := length_putK kvs f (V.ref z)
        rw [List.nil_append] at tk ⊢
        generalize upd (upd (upd H9 z (.lst [])) nx (.dT (putK kvs f (.ref z)))) z (.lst [.ref ga]) = H10 at G10 tk ⊢
        generalize putK kvs f (.ref z) = kvs1 at G10 kl1 ⊢
        refine ⟨_, rfl, p, _, dx, _, _, rfl, G10.hp, T.c_Rolling, T.a_Rolling_nexts, r_n, nx, rfl, .inr ⟨_, .of G10.ni.at_⟩, _, rfl, Nat.zero_le _, fun z hz => ⟨_, g, ga, kept G10.ni.at_ hz, rfl, kept (tk _ _ hga) hz, small9 (by omega), fun v hv => ?_, fun hv => ?_⟩⟩
        · obtain ⟨l2, ws, e, h3, h4, q⟩ := (second H10 kvs1 tk G10 (by omega) z hz _ third).1 v hv
          subst e
          exact ⟨.inl ⟨rfl, _, SqL.of h3⟩, _, rfl, l2, _, _, rfl, rfl, h3, small9 (by omega), q⟩
        · have q := (second H10 kvs1 tk G10 (by omega) z hz _ third).2 hv
          have h3 : upd (upd H10 z (.lst [])) nx (.dT (putK kvs1 g (.ref z))) z = some (.lst []) := by rw [upd_ne (ne_of_none G10.ni.at_ hz).symm, upd_same]
          exact ⟨.inl ⟨rfl, _, SqL.of h3⟩, _, rfl, z, _, _, rfl, rfl, h3, small9 (Nat.zero_le _), q⟩
    · rintro σ H8 ⟨⟨x4, x5, rfl⟩, kvs, m, G8, kl, ml, mem⟩
      rw [lq, List.take_length] at mem
      refine k H8 nx rd G8.np hnx0 hrd0 nxr G8.hr ⟨d, a, l, m, ⟨dx, G8.hp⟩, ⟨kvs, G8.ni.at_, fun k v hk => ?_, G8.ni.nil⟩, fun k g => (mem k g).trans (padj k g), fun k g hkg => ?_, fun k => ?_⟩
      · obtain ⟨l1, e1, e2, _, _, e3⟩ := G8.ni.val k v hk
        exact ⟨l1, e1, e2, e3⟩
      · rcases (padj k g).mpr hkg with h | h
        · exact pin _ h
        · exact (pin _ h).symm
      · have := ml k
        omega
end
end Wm
end
section
set_option Elab.async false
set_option linter.all false
set_option maxRecDepth 100000
set_option maxHeartbeats 4000000
/-! A dict keyed by pairs of a number and a tuple of tuples. -/
namespace Wm
open PySem PySem.Spec PyProof.Rows L2
set_option autoImplicit false
abbrev NK : Type := Int × List Fc
def keyN : Key → NestedKey
  | .inl i => .num i
  | .inr x => .text x
def fcN (f : Fc) : NestedKey := .tup (f.map keyN)
def nkN (k : NK) : NestedKey := .tup [.num k.1, .tup (k.2.map fcN)]
theorem keyN_inj {a b : Key} (h : keyN a = keyN b) : a = b := by
  cases a <;> cases b <;> simp [keyN] at h <;> rw [h]
theorem map_inj {α β : Type} {f : α → β} (hf : ∀ a b, f a = f b → a = b) : ∀ {l m : List α}, l.map f = m.map f → l = m
  | [], [], _ => rfl
  | [], _ :: _, h => by simp at h
  | _ :: _, [], h => by simp at h
  | a :: l, b :: m, h => by
    rw [List.map_cons, List.map_cons] at h
    injection h with h1 h2
    rw [hf _ _ h1, map_inj hf h2]
theorem fcN_inj {a b : Fc} (h : fcN a = fcN b) : a = b := by
  unfold fcN at h
  injection h with h
  exact map_inj (fun _ _ => keyN_inj) h
theorem nkN_inj {a b : NK} (h : nkN a = nkN b) : a = b := by
  unfold nkN at h
  injection h with h
  injection h with h1 h2
  injection h1 with h1
  injection h2 with h2 _
  injection h2 with h2
  exact Prod.ext h1 (map_inj (fun _ _ => fcN_inj) h2)
theorem depth_f (f : Fc) : (fcN f).depth ≤ 1 := by
  have key : ∀ f : Fc, NestedKey.depthAll (f.map keyN) ≤ 0 := fun f => by
    induction f with
    | nil => exact Nat.le_refl _
    | cons y f ih =>
      refine Nat.max_le.mpr ⟨?_, ih⟩
      cases y <;> exact Nat.le_refl _
  exact Nat.succ_le_succ (key f)
theorem depth_nk (k : NK) : (nkN k).depth ≤ 8 := by
  have key : ∀ l : List Fc, NestedKey.depthAll (l.map fcN) ≤ 1 := fun l => by
    induction l with
    | nil => exact Nat.zero_le _
    | cons f l ih => exact Nat.max_le.mpr ⟨depth_f f, ih⟩
  have h1 : (NestedKey.tup (k.2.map fcN)).depth ≤ 2 := Nat.succ_le_succ (key k.2)
  have h2 : NestedKey.depthAll [.num k.1, .tup (k.2.map fcN)] ≤ 2 := Nat.max_le.mpr ⟨Nat.zero_le _, Nat.max_le.mpr ⟨h1, Nat.zero_le _⟩⟩
  have h3 : (nkN k).depth ≤ 3 := Nat.succ_le_succ h2
  omega
/-- the key's tuple -/
def NKAt (H : Hp) (q : Addr) (k : NK) : Prop := ∃ t as, H q = some (.tup [.int k.1, .ref t]) ∧ H t = some (.tup (as.map V.ref)) ∧ TupsAt H as k.2
theorem NKAt.tk {H H' : Hp} (t : TK H H') {q : Addr} {k : NK} (h : NKAt H q k) : NKAt H' q k := let ⟨a, as, h1, h2, h3⟩ := h; ⟨a, as, t _ _ h1, t _ _ h2, h3.tk t⟩
section
variable {P : Program} {w : World} {H : Hp} {h : Heap}
theorem nest_keys {h : Heap} : ∀ {f : Fc} {us : List Value}, Vals (f.map kV) us → NestedAll h (f.map keyN) us
  | [], _, .nil => .nil
  | .inl i :: f, _, .cons ⟨t, e⟩ r => by subst e; exact .cons (.int i t) (nest_keys r)
  | .inr x :: f, _, .cons ⟨t, e⟩ r => by subst e; exact .cons (.text x t) (nest_keys r)
theorem nest_face (ok : HOk P w H h) {a : Addr} {f : Fc} (e : TupF H a f) : NestedIs h (fcN f) (.ref a) := by
  obtain ⟨_, its, r, o, h1, h2, n, h3⟩ := (show ObjOk P w H h a (.tup (f.map kV)) from ok a _ e)
  exact .tup h1 h2 h3 (nest_keys r)
theorem nest_faces (ok : HOk P w H h) : ∀ {as : List Addr} {fs : List Fc} {us : List Value}, TupsAt H as fs → Vals (as.map V.ref) us → NestedAll h (fs.map fcN) us
  | [], [], _, .nil, .nil => .nil
  | _ :: _, _ :: _, _, .cons e t, .cons r s => by
    cases r
    exact .cons (nest_face ok e) (nest_faces ok t s)
theorem nest_nk (ok : HOk P w H h) {q : Addr} {k : NK} (e : NKAt H q k) : (nestedKind P w).is h (nkN k) q := by
  obtain ⟨t, as, e1, e2, e3⟩ := e
  obtain ⟨_, its, r, o, h1, h2, n, h3⟩ := (show ObjOk P w H h q (.tup [.int k.1, .ref t]) from ok q _ e1)
  obtain ⟨_, its2, r2, o2, g1, g2, n2, g3⟩ := (show ObjOk P w H h t (.tup (as.map V.ref)) from ok t _ e2)
  obtain ⟨u, v, e4, ru, rv⟩ := vals2 r
  obtain ⟨tk, e5⟩ := ru
  subst e5
  cases rv
  subst e4
  exact ⟨.tup h1 h2 h3 (.cons (.int _ tk) (.cons (.tup g1 g2 g3 (nest_faces ok e3 r2)) .nil)), depth_nk k⟩
end
abbrev NE : Type := NK × Addr × Addr
def conv (x : NE) : NestedKey × Addr × Value := (nkN x.1, x.2.1, .ref x.2.2)
/-- the dict: its keys, where their tuples stand, the values -/
def rawN (P : Program) (w : World) (d : Addr) (xs : List NE) : HO := .ext fun h => (d == sysModules) = false ∧ ∃ o es ep, h.get? d = some o ∧ o.ExactDict ∧ o.data = .dict es ep ∧ es.toList = (xs.map conv).map (entryOfKey (nestedKind P w)) ∧ ((xs.map conv).map (·.1)).Nodup
theorem rawN_ok {P : Program} {w : World} {H : Hp} {h : Heap} {d : Addr} {xs : List NE} (hd : (d == sysModules) = false) (dd : h.DictOfH (nestedKind P w) d (xs.map conv)) : ObjOk P w H h d (rawN P w d xs) := by
  obtain ⟨o, es, ep, h1, h2, h3, h4, _, h5⟩ := dd
  refine ⟨⟨hd, o, es, ep, h1, h2, h3, h4, h5⟩, ⟨o, h1⟩, fun g1 g2 ⟨z, o', es', ep', k1, k2⟩ k => ⟨z, o', es', ep', k _ k1, k2⟩⟩
section
variable {X : Cx} {pins : List (Addr × Obj)} {σ : L2.St} {H : Hp} {s : Shared} {d q : Addr} {xs : List NE} {k : NK}
theorem rawN_at (I : Inv X pins σ H s) (e : H d = some (rawN X.prog X.w d xs)) (hx : ∀ x ∈ xs, NKAt H x.2.1 x.1) : (d == sysModules) = false ∧ s.heap.DictOfH (nestedKind X.prog X.w) d (xs.map conv) := by
  obtain ⟨⟨z, o, es, ep, h1, h2, h3, h4, h5⟩, _, _⟩ := I.hok d _ e
  refine ⟨z, o, es, ep, h1, h2, h3, h4, fun y hy => ?_, h5⟩
  obtain ⟨x, hx', rfl⟩ := List.mem_map.mp hy
  exact nest_nk I.hok (hx x hx')
theorem atN_some {p : Addr × Value} (h : atKey (xs.map conv) (nkN k) = some p) : ∃ x ∈ xs, x.1 = k ∧ p = (x.2.1, .ref x.2.2) := by
  unfold atKey at h
  obtain ⟨y, hy, rfl⟩ := Option.map_eq_some_iff.mp h
  obtain ⟨x, hx, rfl⟩ := List.mem_map.mp (List.mem_of_find?_eq_some hy)
  have e := List.find?_some hy
  exact ⟨x, hx, nkN_inj (of_decide_eq_true e), rfl⟩
theorem atN_none (h : atKey (xs.map conv) (nkN k) = none) : ∀ x ∈ xs, x.1 ≠ k := fun x hx e => by
  unfold atKey at h
  rw [Option.map_eq_none_iff, List.find?_eq_none] at h
  have := h (conv x) (List.mem_map.mpr ⟨x, hx, rfl⟩)
  refine this (decide_eq_true ?_)
  show nkN x.1 = nkN k
  rw [e]
theorem conv_inj (n : ((xs.map conv).map (·.1)).Nodup) {x y : NE} (hx : x ∈ xs) (hy : y ∈ xs) (e : x.1 = y.1) : x = y := by
  obtain ⟨i, hi, ei⟩ := List.mem_iff_getElem.mp hx
  obtain ⟨j, hj, ej⟩ := List.mem_iff_getElem.mp hy
  have h1 : ((xs.map conv).map (·.1))[i]? = some (nkN x.1) := by
    rw [List.getElem?_map, List.getElem?_map, List.getElem?_eq_getElem hi, ei]
    rfl
  have h2 : ((xs.map conv).map (·.1))[j]? = some (nkN y.1) := by
    rw [List.getElem?_map, List.getElem?_map, List.getElem?_eq_getElem hj, ej]
    rfl
  have := (List.getElem?_inj (List.getElem?_eq_some_iff.mp h1).1 n (j := j)).mp (h1.trans ((congrArg (fun z => some (nkN z)) e).trans h2.symm))
  subst this
  exact ei.symm.trans ej
end
/-! ### the rules -/
def tNNew (P : Program) (w : World) : TE := fun _ H Q => ∀ d, H d = none → Q (.ref d) (upd H d (rawN P w d []))
def tNNotIn (P : Program) (w : World) (ty td : TE) : TE := fun σ H Q => ty σ H fun y H1 => td σ H1 fun x H2 => ∃ d xs q k, x = .ref d ∧ y = .ref q ∧ H2 d = some (rawN P w d xs) ∧ (∀ x ∈ xs, NKAt H2 x.2.1 x.1) ∧ NKAt H2 q k ∧
  ((∀ x ∈ xs, x.1 ≠ k) → Q (.bl true) H2) ∧ ((∃ x ∈ xs, x.1 = k) → Q (.bl false) H2)
def tNGet (P : Program) (w : World) (td ty : TE) : TE := fun σ H Q => td σ H fun x H1 => ty σ H1 fun y H2 => ∃ d xs q z, x = .ref d ∧ y = .ref q ∧ H2 d = some (rawN P w d xs) ∧ (∀ x ∈ xs, NKAt H2 x.2.1 x.1) ∧ z ∈ xs ∧ NKAt H2 q z.1 ∧ Q (.ref z.2.2) H2
def sNPut (P : Program) (w : World) (td ty tv : TE) : TS := fun D σ H => tv σ H fun v H1 => td σ H1 fun x H2 => ty σ H2 fun y H3 => ∃ d xs q k r, x = .ref d ∧ y = .ref q ∧ v = .ref r ∧ H3 d = some (rawN P w d xs) ∧ (∀ x ∈ xs, NKAt H3 x.2.1 x.1) ∧ NKAt H3 q k ∧ (∀ x ∈ xs, x.1 ≠ k) ∧ xs.length < sizeLine ∧
  D.nx σ (upd H3 d (rawN P w d (xs ++ [(k, q, r)])))
section
variable {X : Cx} {o i value : Expr} {pos pos' : Pos} {td ty tv : TE}
theorem pe_dnewN : PE X (.Dict [] [] pos) (tNNew X.prog X.w) := ⟨fun pins s σ H Q I h => by
  have nm := notMods I (Nat.le_refl _)
  exact wpAny_Dict_empty ⟨.ref s.heap.objs.size, _, I.laid (a := s.heap.objs.size) (t' := s.toks) (fun _ _ q => Heap.get?_push_of_some _ q) (Nat.le_refl _) (rawN_ok (xs := []) nm (Heap.DictOfH.new s.heap)), rfl, h _ (I.hok.fresh (Nat.le_refl _))⟩⟩
theorem pc_nnotin (hu : X.A.units + 64 < cLine) (hi : PE X i ty) (ho : PE X o td) : PC X .NotIn i o (tNNotIn X.prog X.w ty td) := by
  refine ⟨fun pins s σ H Q I h => ?_⟩
  refine thn (hi.run pins s σ H _ I h) fun iv s1 ⟨y, H1, I1, ry, q1⟩ => thn (ho.run pins s1 σ H1 _ I1 q1) fun u s2 ⟨x, H2, I2, rx, d, xs, q, k, ex, ey, e, hx, hq, h1, h2⟩ => ?_
  subst ex
  subst ey
  cases (show u = Value.ref d from rx)
  cases (show iv = Value.ref q from ry)
  obtain ⟨z, dd⟩ := rawN_at I2 e hx
  refine wpAny_notIn_heap (by show X.A.units + 1 + 8 < cLine; omega) (nest_nk I2.hok hq) z dd ?_
  cases ha : atKey (xs.map conv) (nkN k) with
  | none => exact ⟨.bl true, H2, I2.tok _, rfl, h1 (atN_none ha)⟩
  | some p =>
    obtain ⟨x, hx', e', _⟩ := atN_some ha
    exact ⟨.bl false, H2, I2.tok _, rfl, h2 ⟨x, hx', e'⟩⟩
theorem pe_nget (hu : X.A.units + 64 < cLine) (ho : PE X o td) (hi : PE X i ty) (hs : NoSl i) : PE X (.Subscript o i pos) (tNGet X.prog X.w td ty) := by
  refine ⟨fun pins s σ H Q I h => ?_⟩
  refine subD_of PySem.F.slot_dict_getitem.lookup hs (thn (ho.run pins s σ H _ I h) fun u s1 ⟨x, H1, I1, rx, q1⟩ => thn (hi.run pins s1 σ H1 _ I1 q1) fun iv s2 ⟨y, H2, I2, ry, d, xs, q, z, ex, ey, e, hx, hz, hq, h1⟩ => ?_)
  subst ex
  subst ey
  cases (show u = Value.ref d from rx)
  cases (show iv = Value.ref q from ry)
  obtain ⟨zz, dd⟩ := rawN_at I2 e hx
  refine ⟨dd.typeIs, ?_⟩
  have nd : ((xs.map conv).map (·.1)).Nodup := by
    obtain ⟨_, _, _, _, _, _, _, _, n⟩ := dd
    exact n
  cases ha : atKey (xs.map conv) (nkN z.1) with
  | none => exact absurd rfl (atN_none ha z hz)
  | some p =>
    obtain ⟨x, hx', e', rfl⟩ := atN_some ha
    have := conv_inj nd hx' hz e'
    subst this
    exact wpAny_getItem_heap (by show X.A.units + 1 + 8 < cLine; omega) (nest_nk I2.hok hq) dd ha ⟨.ref x.2.2, H2, I2.tok _, rfl, h1⟩
theorem ps_nput (hu : X.A.units + 64 < cLine) (ho : PE X o td) (hi : PE X i ty) (hv : PE X value tv) (hs : swapsWith value (some (.Subscript o i pos')) pos.line X.env = pure false) : PS X (.Assign [.Subscript o i pos'] value pos) (sNPut X.prog X.w td ty tv) := by
  refine ⟨fun pins s σ H D I h => ?_⟩
  refine wpAny_Assign_Subscript (thn (hv.run pins s σ H _ I h) fun r s1 ⟨v, H1, I1, rv, q1⟩ => thn (ho.run pins s1 σ H1 _ I1 q1) fun u s2 ⟨x, H2, I2, rx, q2⟩ => thn (hi.run pins s2 σ H2 _ I2 q2) fun iv s3 ⟨y, H3, I3, ry, d, xs, q, k, r', ex, ey, ev, e, hx, hq, hn, hz, h1⟩ => ?_) hs
  subst ex
  subst ey
  subst ev
  cases (show u = Value.ref d from rx)
  cases (show iv = Value.ref q from ry)
  cases (show r = Value.ref r' from rv)
  obtain ⟨z, dd⟩ := rawN_at I3 e hx
  refine wpAny_setItem_heap (hsz := by rw [List.length_map]; exact Nat.le_of_lt hz) (by show X.A.units + 1 + 8 < cLine; omega) (nest_nk I3.hok hq) dd fun h' dd' hs' => ⟨σ, _, ?_, h1⟩
  have ha : atKey (xs.map conv) (nkN k) = none := by
    cases ha : atKey (xs.map conv) (nkN k) with
    | none => rfl
    | some p =>
      obtain ⟨x, hx', e', _⟩ := atN_some ha
      exact absurd e' (hn x hx')
  rw [storedH_new ha] at dd'
  have e4 : xs.map conv ++ [(nkN k, q, Value.ref r')] = (xs ++ [(k, q, r')]).map conv := by rw [List.map_append]; rfl
  rw [e4] at dd'
  have he : ∃ q, h'.get? d = some q := let ⟨q, _, _, hq, _⟩ := dd'; ⟨q, hq⟩
  exact d_write I3 (by rw [e]; exact True.intro) hs' he (rawN_ok z dd')
end
end Wm
end
section
set_option Elab.async false
set_option linter.all false
set_option maxRecDepth 100000
set_option maxHeartbeats 4000000
/-! A course as it grows. -/
namespace Wm
open PySem PySem.Spec PyProof.Rows L2 WmM
set_option autoImplicit false
abbrev fsSp (low high : Int) (v : V) : List (Str × V) := [("low", .int low), ("high", .int high), ("lying", v)]
abbrev fsC (l : Addr) (t : Int) : List (Str × V) := [("spans", .ref l), ("total", .int t)]
def LyAt (K : PySem.W.Frag) (F : List Fc) (G : Gh) (H : Hp) (v : V) (adj : AdjT) : Prop := (v = .non ∧ ∀ x y, ¬ adj x y) ∨ ∃ r, v = .ref r ∧ RollAt K F G H r adj
abbrev Sp3 : Type := Int × Int × AdjT
def SpanAt (K : PySem.W.Frag) (F : List Fc) (G : Gh) (H : Hp) (s : Addr) (p : Sp3) : Prop := ∃ dx v, H s = some (.ins (He.ga K "Span") dx (fsSp p.1 p.2.1 v)) ∧ LyAt K F G H v p.2.2
def CourseAt (K : PySem.W.Frag) (F : List Fc) (G : Gh) (H : Hp) (c : Addr) (sps : List Sp3) (tot : Int) : Prop := ∃ dx l as, H c = some (.ins (He.ga K "Course") dx (fsC l tot)) ∧ H l = some (.lst (as.map V.ref)) ∧ Paired (SpanAt K F G H) as sps
def adjD (S : Shp) : Deed → AdjT
  | .opn _ => fun _ _ => False
  | .roll d ps _ => AdjOf S d ps
def totD (l : List Deed) : Int := (l.map Deed.b).sum
def spanOf (S : Shp) (low : Int) (d : Deed) : List Sp3 := if 0 < d.b then [(low, low + d.b, adjD S d)] else []
def spansFrom (S : Shp) : Int → List Deed → List Sp3
  | _, [] => []
  | low, d :: r => spanOf S low d ++ spansFrom S (low + d.b) r
theorem totD_snoc (l : List Deed) (d : Deed) : totD (l ++ [d]) = totD l + d.b := by simp [totD, List.sum_append]
theorem spans_snoc (S : Shp) (d : Deed) : ∀ (l : List Deed) (low : Int), spansFrom S low (l ++ [d]) = spansFrom S low l ++ spanOf S (low + totD l) d
  | [], low => by
    show spanOf S low d ++ [] = [] ++ spanOf S (low + totD []) d
    have e : totD [] = 0 := rfl
    rw [e, Int.add_zero, List.append_nil, List.nil_append]
  | e :: l, low => by
    show spanOf S low e ++ spansFrom S (low + e.b) (l ++ [d]) = (spanOf S low e ++ spansFrom S (low + e.b) l) ++ spanOf S (low + totD (e :: l)) d
    have h : totD (e :: l) = e.b + totD l := by simp [totD]
    rw [spans_snoc S d l, List.append_assoc, h, Int.add_assoc]
theorem LyAt.keep {K : PySem.W.Frag} {F : List Fc} {Z : Addr → Prop} {G : Gh} {H H' : Hp} {v : V} {adj : AdjT} (R : RInv F Z G H) (k : Keep G H H') (h : LyAt K F G H v adj) : LyAt K F G H' v adj := by
  rcases h with h | ⟨r, e, h⟩
  · exact .inl h
  · exact .inr ⟨r, e, h.keep R k⟩
theorem SpanAt.keep {K : PySem.W.Frag} {F : List Fc} {Z : Addr → Prop} {G : Gh} {H H' : Hp} {s : Addr} {p : Sp3} (R : RInv F Z G H) (k : Keep G H H') (h : SpanAt K F G H s p) : SpanAt K F G H' s p := by
  obtain ⟨dx, v, h1, h2⟩ := h
  exact ⟨dx, v, k.kn R _ _ h1 rfl, h2.keep R k⟩
theorem CourseAt.keep {K : PySem.W.Frag} {F : List Fc} {Z : Addr → Prop} {G : Gh} {H H' : Hp} {c : Addr} {sps : List Sp3} {tot : Int} (R : RInv F Z G H) (k : Keep G H H') (h : CourseAt K F G H c sps tot) : CourseAt K F G H' c sps tot := by
  obtain ⟨dx, l, as, h1, h2, h3⟩ := h
  exact ⟨dx, l, as, k.kn R _ _ h1 rfl, k.kn R _ _ h2 rfl, paired_imp (fun _ _ h => h.keep R k) h3⟩
/-- a list of things that are instances is written -/
structure InsL (H : Hp) (l : Addr) (as : List Addr) : Prop where
  at_ : H l = some (.lst (as.map V.ref))
  ins : ∀ a ∈ as, ∃ C dx fs, H a = some (.ins C dx fs)
theorem refs_inj : ∀ {as bs : List Addr}, as.map V.ref = bs.map V.ref → as = bs := fun h => map_inj (fun a b e => by injection e) h
theorem RollB.updL {K : PySem.W.Frag} {F : List Fc} {H : Hp} {r nx rd l : Addr} {adj : AdjT} {as : List Addr} {o : HO} (i : InsL H l as) (h : RollB K F H r nx rd adj) : RollB K F (upd H l o) r nx rd adj := by
  obtain ⟨d, a, la, m, ⟨dx, h1⟩, ⟨kvs, h2, h3, h4⟩, h5⟩ := h
  have n1 : r ≠ l := ne_of h1 i.at_ fun z => nomatch z
  have n2 : nx ≠ l := ne_of h2 i.at_ fun z => nomatch z
  refine ⟨d, a, la, m, ⟨dx, by rw [upd_ne n1]; exact h1⟩, ⟨kvs, by rw [upd_ne n2]; exact h2, fun k v hk => ?_, h4⟩, h5⟩
  obtain ⟨l1, e, ⟨bs, g1, g2⟩, g3⟩ := h3 k v hk
  have n3 : l1 ≠ l := fun z => by
    rw [z, i.at_] at g1
    have g1 := Option.some.inj g1
    injection g1 with g1
    have e2 := refs_inj g1
    subst e2
    cases as with
    | nil =>
      have := Paired.length g2
      exact g3 (List.eq_nil_of_length_eq_zero this.symm)
    | cons b bs =>
      obtain ⟨C, dx', fs, hb⟩ := i.ins b List.mem_cons_self
      generalize m k = mk at g2
      cases g2 with
      | cons hb' _ =>
        have hb' : H b = some (.tup _) := hb'
        rw [hb] at hb'
        cases hb'
  exact ⟨l1, e, ⟨bs, by rw [upd_ne n3]; exact g1, g2.tk (TK.lst i.at_)⟩, g3⟩
theorem RollB.updC {K : PySem.W.Frag} {F : List Fc} {H : Hp} {r nx rd c C dx : Addr} {adj : AdjT} {fs : List (Str × V)} {o : HO} (hc : H c = some (.ins C dx fs)) (hn : fs.lookup ("drum_at" : Str) = none) (h : RollB K F H r nx rd adj) : RollB K F (upd H c o) r nx rd adj := by
  obtain ⟨d, a, la, m, ⟨dx', h1⟩, ⟨kvs, h2, h3, h4⟩, h5⟩ := h
  have n1 : r ≠ c := fun z => by
    rw [z, hc] at h1
    have h1 := Option.some.inj h1
    injection h1 with _ _ h1
    rw [h1, r_d] at hn
    cases hn
  have n2 : nx ≠ c := ne_of h2 hc fun z => nomatch z
  refine ⟨d, a, la, m, ⟨dx', by rw [upd_ne n1]; exact h1⟩, ⟨kvs, by rw [upd_ne n2]; exact h2, fun k v hk => ?_, h4⟩, h5⟩
  obtain ⟨l1, e, ⟨bs, g1, g2⟩, g3⟩ := h3 k v hk
  exact ⟨l1, e, ⟨bs, by rw [upd_ne (ne_of g1 hc fun z => nomatch z)]; exact g1, g2.tk (TK.ins hc)⟩, g3⟩
theorem RollB.updE {K : PySem.W.Frag} {F : List Fc} {H : Hp} {r nx rd d : Addr} {adj : AdjT} {φ : Heap → Prop} {o : HO} (hd : H d = some (.ext φ)) (h : RollB K F H r nx rd adj) : RollB K F (upd H d o) r nx rd adj := by
  obtain ⟨d', a, la, m, ⟨dx', h1⟩, ⟨kvs, h2, h3, h4⟩, h5⟩ := h
  have n1 : r ≠ d := ne_of h1 hd fun z => nomatch z
  have n2 : nx ≠ d := ne_of h2 hd fun z => nomatch z
  refine ⟨d', a, la, m, ⟨dx', by rw [upd_ne n1]; exact h1⟩, ⟨kvs, by rw [upd_ne n2]; exact h2, fun k v hk => ?_, h4⟩, h5⟩
  obtain ⟨l1, e, ⟨bs, g1, g2⟩, g3⟩ := h3 k v hk
  exact ⟨l1, e, ⟨bs, by rw [upd_ne (ne_of g1 hd fun z => nomatch z)]; exact g1, paired_imp (fun b f (e : H b = some (.tup (List.map kV f))) => by show upd H d o b = _; rw [upd_ne (ne_of e hd fun z => nomatch z)]; exact e) g2⟩, g3⟩
theorem RInv.kd {F : List Fc} {Z : Addr → Prop} {G : Gh} {H H' : Hp} (k : ∀ b kvs, H b = some (.dT kvs) → H' b = some (.dT kvs)) (R : RInv F Z G H) : RInv F Z G H' := fun a adj e => by
  obtain ⟨kvs, h1, h2, h3, h4⟩ := R a adj e
  refine ⟨kvs, k _ _ h1, h2, h3, fun x v hx => ?_⟩
  obtain ⟨q, e1, e2, kv, e3, e4⟩ := h4 x v hx
  exact ⟨q, e1, e2, kv, k _ _ e3, e4⟩
structure CI (P : Program) (w : World) (K : PySem.W.Frag) (S : Shp) (H0 H : Hp) (c dx l kn : Addr) (G : Gh) (xs : List NE) (as : List Addr) (tot : Int) (sps : List Sp3) : Prop where
  np : NP c H0 H
  g0 : ∀ b adj, G b = some adj → H0 b = none
  ri : RInv (facesOf S) (fun _ => False) G H
  hc : H c = some (.ins (He.ga K "Course") dx (fsC l tot))
  l0 : H0 l = none
  hl : H l = some (.lst (as.map V.ref))
  sp : Paired (SpanAt K (facesOf S) G H) as sps
  k0 : H0 kn = none
  hk : H kn = some (rawN P w kn xs)
  hx : ∀ x ∈ xs, NKAt H x.2.1 x.1 ∧ ∃ d ps, x.1 = (d, ps.map Ply.key) ∧ RollAt K (facesOf S) G H x.2.2 (AdjOf S d ps)
section
variable {P : Program} {w : World} {K : PySem.W.Frag} {S : Shp} {H0 H : Hp} {c dx l kn : Addr} {G : Gh} {xs : List NE} {as : List Addr} {tot : Int} {sps : List Sp3}
theorem CI.same {H' : Hp} (s : Same H H') (I : CI P w K S H0 H c dx l kn G xs as tot sps) : CI P w K S H0 H' c dx l kn G xs as tot sps :=
  ⟨I.np.same s, I.g0, I.ri.same s, s _ _ I.hc, I.l0, s _ _ I.hl, paired_imp (fun _ _ h => h.keep I.ri (Keep.same s)) I.sp, I.k0, s _ _ I.hk, fun x hx => let ⟨h1, d, ps, h2, h3⟩ := I.hx x hx; ⟨h1.tk (TK.same s), d, ps, h2, h3.keep I.ri (Keep.same s)⟩⟩
theorem CI.insL (I : CI P w K S H0 H c dx l kn G xs as tot sps) : InsL H l as := ⟨I.hl, fun a ha => by
  obtain ⟨p, hp, dx', v, h, _⟩ := paired_memL I.sp ha
  exact ⟨_, _, _, h⟩⟩
theorem CI.old0 (I : CI P w K S H0 H c dx l kn G xs as tot sps) {b : Addr} (h : H b = none) : H0 b = none := by
  cases q : H0 b with
  | none => rfl
  | some o =>
    have nb : b ≠ c := fun z => by
      rw [z, I.hc] at h
      cases h
    have := I.np b o nb q
    rw [h] at this
    cases this
/-- a rolling is made -/
theorem CI.roll {H' : Hp} {rd : Addr} {adj : AdjT} (s : Same H H') (n : H rd = none) (e : H' rd = some (.dT [])) (I : CI P w K S H0 H c dx l kn G xs as tot sps) : CI P w K S H0 H' c dx l kn (moreG G rd adj) xs as tot sps := by
  have lym : ∀ {v adj'}, LyAt K (facesOf S) G H v adj' → LyAt K (facesOf S) (moreG G rd adj) H' v adj' := fun h => by
    rcases h with h | ⟨r, e, h⟩
    · exact .inl h
    · exact .inr ⟨r, e, h.more I.ri s n⟩
  refine ⟨I.np.same s, fun b adj' hb => ?_, I.ri.more s n e, s _ _ I.hc, I.l0, s _ _ I.hl, paired_imp (fun a p ⟨dx', v, h1, h2⟩ => ⟨dx', v, s _ _ h1, lym h2⟩) I.sp, I.k0, s _ _ I.hk, fun x hx => ?_⟩
  · by_cases z : b = rd
    · rw [z]
      exact I.old0 n
    · rw [moreG_ne z] at hb
      exact I.g0 b adj' hb
  · obtain ⟨h1, d, ps, h2, h3⟩ := I.hx x hx
    exact ⟨h1.tk (TK.same s), d, ps, h2, h3.more I.ri s n⟩
/-- known[key] = rolling -/
theorem CI.put {q r : Addr} {d : Int} {ps : List Ply} (hq : NKAt H q (d, ps.map Ply.key)) (hr : RollAt K (facesOf S) G H r (AdjOf S d ps)) (I : CI P w K S H0 H c dx l kn G xs as tot sps) : CI P w K S H0 (upd H kn (rawN P w kn (xs ++ [((d, ps.map Ply.key), q, r)]))) c dx l kn G (xs ++ [((d, ps.map Ply.key), q, r)]) as tot sps := by
  have hk := I.hk
  have tk : TK H (upd H kn (rawN P w kn (xs ++ [((d, ps.map Ply.key), q, r)]))) := fun a ys e => by rw [upd_ne (ne_of e hk fun z => nomatch z)]; exact e
  have ru : ∀ {r adj}, RollAt K (facesOf S) G H r adj → RollAt K (facesOf S) G (upd H kn (rawN P w kn (xs ++ [((d, ps.map Ply.key), q, r)]))) r adj := fun ⟨nx, rd, g1, g2, b⟩ => ⟨nx, rd, g1, g2, b.updE hk⟩
  have ru2 : ∀ {r' adj}, RollAt K (facesOf S) G H r' adj → RollAt K (facesOf S) G (upd H kn (rawN P w kn (xs ++ [((d, ps.map Ply.key), q, r)]))) r' adj := fun ⟨nx, rd, g1, g2, b⟩ => ⟨nx, rd, g1, g2, b.updE hk⟩
  have su : ∀ {a p}, SpanAt K (facesOf S) G H a p → SpanAt K (facesOf S) G (upd H kn (rawN P w kn (xs ++ [((d, ps.map Ply.key), q, r)]))) a p := fun ⟨dx', v, h1, h2⟩ => ⟨dx', v, by rw [upd_ne (ne_of h1 hk fun z => nomatch z)]; exact h1, h2.elim .inl fun ⟨r', e, h2⟩ => .inr ⟨r', e, ru2 h2⟩⟩
  refine ⟨I.np.new I.k0, I.g0, I.ri.kd fun b kvs e => by rw [upd_ne (ne_of e hk fun z => nomatch z)]; exact e, by rw [upd_ne (ne_of I.hc hk fun z => nomatch z)]; exact I.hc, I.l0, by rw [upd_ne (ne_of I.hl hk fun z => nomatch z)]; exact I.hl, paired_imp (fun _ _ h => su h) I.sp, I.k0, upd_same, fun x hx => ?_⟩
  · rcases List.mem_append.mp hx with hx | hx
    · obtain ⟨h1, d', ps', h2, h3⟩ := I.hx x hx
      exact ⟨h1.tk tk, d', ps', h2, ru2 h3⟩
    · rw [List.mem_singleton.mp hx]
      exact ⟨hq.tk tk, d, ps, rfl, ru2 hr⟩
/-- self.spans.append(Span(..)) -/
theorem CI.span {x dx' : Addr} {low high : Int} {v : V} {adj : AdjT} (hx : H x = none) (hdx : H dx' = none) (hv : LyAt K (facesOf S) G H v adj) (I : CI P w K S H0 H c dx l kn G xs as tot sps) :
    CI P w K S H0 (upd (upd (upd H dx' (.own x)) x (.ins (He.ga K "Span") dx' (fsSp low high v))) l (.lst (as.map V.ref ++ [.ref x]))) c dx l kn G xs (as ++ [x]) tot (sps ++ [(low, high, adj)]) := by
  have s1 : Same H (upd (upd H dx' (.own x)) x (.ins (He.ga K "Span") dx' (fsSp low high v))) := (Same.new hdx).over hx
  have I1 := I.same s1
  have hx1 : upd (upd H dx' (.own x)) x (.ins (He.ga K "Span") dx' (fsSp low high v)) x = some (.ins (He.ga K "Span") dx' (fsSp low high v)) := upd_same
  have hv1 := hv.keep I.ri (Keep.same s1)
  generalize upd (upd H dx' (.own x)) x (.ins (He.ga K "Span") dx' (fsSp low high v)) = H1 at s1 I1 hx1 hv1 ⊢
  have iL := I1.insL
  have hl := I1.hl
  have ru : ∀ {r adj}, RollAt K (facesOf S) G H1 r adj → RollAt K (facesOf S) G (upd H1 l (.lst (as.map V.ref ++ [.ref x]))) r adj := fun ⟨nx, rd, g1, g2, b⟩ => ⟨nx, rd, g1, g2, b.updL iL⟩
  have lu : ∀ {v adj}, LyAt K (facesOf S) G H1 v adj → LyAt K (facesOf S) G (upd H1 l (.lst (as.map V.ref ++ [.ref x]))) v adj := fun h => by
    rcases h with h | ⟨r, e, h⟩
    · exact .inl h
    · exact .inr ⟨r, e, ru h⟩
  have su : ∀ {a p}, SpanAt K (facesOf S) G H1 a p → SpanAt K (facesOf S) G (upd H1 l (.lst (as.map V.ref ++ [.ref x]))) a p := fun ⟨dx', v, h1, h2⟩ => ⟨dx', v, by rw [upd_ne (ne_of h1 hl fun z => nomatch z)]; exact h1, lu h2⟩
  refine ⟨I1.np.new I1.l0, I1.g0, I1.ri.kd fun b kvs e => by rw [upd_ne (ne_of e hl fun z => nomatch z)]; exact e, by rw [upd_ne (ne_of I1.hc hl fun z => nomatch z)]; exact I1.hc, I1.l0, by rw [upd_same, List.map_append]; rfl, paired_app (paired_imp (fun _ _ h => su h) I1.sp) (.cons (su ⟨dx', v, hx1, hv1⟩) .nil), I1.k0, by rw [upd_ne (ne_of I1.hk hl fun z => nomatch z)]; exact I1.hk, fun y hy => ?_⟩
  obtain ⟨h1, d, ps, h2, h3⟩ := I1.hx y hy
  exact ⟨h1.tk (TK.lst hl), d, ps, h2, ru h3⟩
/-- self.total += .. -/
theorem CI.total {t : Int} (I : CI P w K S H0 H c dx l kn G xs as tot sps) : CI P w K S H0 (upd H c (.ins (He.ga K "Course") dx (fsC l t))) c dx l kn G xs as t sps := by
  have hc := I.hc
  have nd : (fsC l tot).lookup ("drum_at" : Str) = none := by rw [look1 (by decide +kernel), look1 (by decide +kernel)]; rfl
  have nl : (fsC l tot).lookup ("low" : Str) = none := by rw [look1 (by decide +kernel), look1 (by decide +kernel)]; rfl
  have ru : ∀ {r adj}, RollAt K (facesOf S) G H r adj → RollAt K (facesOf S) G (upd H c (.ins (He.ga K "Course") dx (fsC l t))) r adj := fun ⟨nx, rd, g1, g2, b⟩ => ⟨nx, rd, g1, g2, b.updC hc nd⟩
  have lu : ∀ {v adj}, LyAt K (facesOf S) G H v adj → LyAt K (facesOf S) G (upd H c (.ins (He.ga K "Course") dx (fsC l t))) v adj := fun h => by
    rcases h with h | ⟨r, e, h⟩
    · exact .inl h
    · exact .inr ⟨r, e, ru h⟩
  have su : ∀ {a p}, SpanAt K (facesOf S) G H a p → SpanAt K (facesOf S) G (upd H c (.ins (He.ga K "Course") dx (fsC l t))) a p := fun ⟨dx', v, h1, h2⟩ => by
    refine ⟨dx', v, ?_, lu h2⟩
    rw [upd_ne fun z => ?_]
    · exact h1
    · rw [z, hc] at h1
      have h1 := Option.some.inj h1
      injection h1 with _ _ h1
      rw [h1, look0] at nl
      cases nl
  refine ⟨I.np.put, I.g0, I.ri.kd fun b kvs e => by rw [upd_ne (ne_of e hc fun z => nomatch z)]; exact e, upd_same, I.l0, by rw [upd_ne (ne_of I.hl hc fun z => nomatch z)]; exact I.hl, paired_imp (fun _ _ h => su h) I.sp, I.k0, by rw [upd_ne (ne_of I.hk hc fun z => nomatch z)]; exact I.hk, fun y hy => ?_⟩
  obtain ⟨h1, d, ps, h2, h3⟩ := I.hx y hy
  exact ⟨h1.tk (TK.ins hc), d, ps, h2, ru h3⟩
end
end Wm
end
section
set_option Elab.async false
set_option linter.all false
set_option maxRecDepth 100000
set_option maxHeartbeats 4000000
/-! Spans, courses: walked. -/
namespace Wm
open PySem PySem.Spec PyProof.Rows L2 WmM
set_option autoImplicit false
def sp_Span_init (K : PySem.W.Frag) : Sp := fun vs H Q _ => ∃ (p dx : Addr) (low high : Int) (v : V), vs = [.ref p, .int low, .int high, v] ∧ H p = some (.ins (He.ga K "Span") dx []) ∧ Q .non (upd H p (.ins (He.ga K "Span") dx (fsSp low high v)))
def sp_Span_around (K : PySem.W.Frag) : Sp := fun vs H Q _ => ∃ (s a : Addr) (f : Fc) (F : List Fc) (Z : Addr → Prop) (G : Gh) (p : Sp3), vs = [.ref s, .ref a] ∧ (∀ b, Z b → H b ≠ none) ∧ RInv F Z G H ∧ SpanAt K F G H s p ∧ TupF H a f ∧ f ∈ F ∧ FsOk F ∧ ∀ H' q, Keep G H H' → RInv F Z G H' → GZ G Z q → DistD H' q p.2.2 f → Q (.ref q) H'
def sp_Course_init (K : PySem.W.Frag) : Sp := fun vs H Q _ => ∃ (c dx sh lr : Addr) (S : Shp) (row : List Deed), vs = [.ref c, .ref sh, .ref lr] ∧ H c = some (.ins (He.ga K "Course") dx []) ∧ ShopAt K H sh S ∧ ShpOk S ∧ RowAt H lr row ∧ RowOk S row ∧
  ∀ H' G, NP c H H' → (∀ b adj, G b = some adj → H b = none) → RInv (facesOf S) (fun _ => False) G H' → CourseAt K (facesOf S) G H' c (spansFrom S 0 row) (totD row) → Q .non H'
theorem dist_no {adj : AdjT} (h : ∀ x y, ¬ adj x y) (f x : Fc) (n : Nat) : Dist adj f x n ↔ (n = 0 ∧ f = x) := by
  constructor
  · intro q
    cases n with
    | zero => exact ⟨rfl, dist_zero.mp q⟩
    | succ n =>
      obtain ⟨y, _, ha⟩ := dist_pred q
      exact absurd ha (h _ _)
  · rintro ⟨rfl, e⟩
    exact dist_zero.mpr e
theorem c_sp {l : Addr} {t : Int} : (fsC l t).lookup ("spans" : Str) = some (.ref l) := look0
theorem c_to {l : Addr} {t : Int} : (fsC l t).lookup ("total" : Str) = some (.int t) := by rw [look1 (by decide +kernel), look0]
theorem s_lo {a b : Int} {v : V} : (fsSp a b v).lookup ("low" : Str) = some (.int a) := look0
theorem s_hi {a b : Int} {v : V} : (fsSp a b v).lookup ("high" : Str) = some (.int b) := by rw [look1 (by decide +kernel), look0]
theorem s_ly {a b : Int} {v : V} : (fsSp a b v).lookup ("lying" : Str) = some v := by rw [look1 (by decide +kernel), look1 (by decide +kernel), look0]
theorem s_ar {a b : Int} {v : V} : (fsSp a b v).lookup ("around" : Str) = none := by rw [look1 (by decide +kernel), look1 (by decide +kernel), look1 (by decide +kernel)]; rfl
theorem spans_len (S : Shp) : ∀ (row : List Deed) (low : Int), (spansFrom S low row).length ≤ row.length
  | [], _ => Nat.le_refl _
  | d :: r, low => by
    show (spanOf S low d ++ spansFrom S (low + d.b) r).length ≤ _
    rw [List.length_append, List.length_cons]
    have := spans_len S r (low + d.b)
    have : (spanOf S low d).length ≤ 1 := by
      unfold spanOf
      split <;> simp
    omega
theorem DeedAt.np {H H' : Hp} {p a C dx : Addr} {d : Deed} (k : NP p H H') (hp : H p = some (.ins C dx [])) (h : DeedAt H a d) : DeedAt H' a d := by
  cases d with
  | opn b =>
    have h : H a = some (.tup [.str "open", .int b]) := h
    exact k _ _ (ne_of h hp fun z => nomatch z) h
  | roll d ps b =>
    obtain ⟨l, h1, h2⟩ := h
    exact ⟨l, k _ _ (ne_of h1 hp fun z => nomatch z) h1, h2.np k hp⟩
theorem key_inj : ∀ {ps qs : List Ply}, ps.map Ply.key = qs.map Ply.key → ps = qs := fun h => map_inj (fun a b e => by
  cases a
  cases b
  unfold Ply.key at e
  simp only [List.cons.injEq, Sum.inl.injEq, Sum.inr.injEq, and_true] at e
  obtain ⟨e1, e2, e3⟩ := e
  subst e1 e2 e3
  rfl) h
section
variable {P : Program} {w : World} {K : PySem.W.Frag} {mg : Str → Option Value} {base : Heap}
theorem ok_Span_init (T : Tx K mg) : Dn P w K mg base 1 (He.ma K (He.ga K "Span") "__init__") ["self", "begin", "end", "rolling"] (sp_Span_init K) := by
  refine dn_of T.F_Span_init sc_Span_init (fun _ _ _ _ _ _ us hl => match us, hl with | [_, _, _, _], _ => rfl) (fun vs H Q E h => ?_) (fun cdv A outer s H vs Q E hr h => ?_)
  · obtain ⟨_, _, _, _, _, rfl, _⟩ := h
    rfl
  · obtain ⟨p, dx, low, high, v, rfl, hp, k⟩ := h
    refine ⟨_, (pss_cons (ps_fld (pv 0) (pv 1) rfl) (pss_cons (ps_fld (pv 0) (pv 2) rfl) (pss_one (ps_fld (pv 0) (pv 3) rfl)))), ?_⟩
    refine ⟨_, rfl, _, rfl, p, _, dx, _, rfl, hp, T.c_Span, T.a_Span_low, (by show 0 < 1000; decide), ?_⟩
    refine ⟨_, rfl, _, rfl, p, _, dx, _, rfl, upd_same, T.c_Span, T.a_Span_high, (by rw [putF0]; show 1 < 1000; decide), ?_⟩
    refine ⟨_, rfl, _, rfl, p, _, dx, _, rfl, upd_same, T.c_Span, T.a_Span_lying, (by rw [putF0, putF1 (by decide +kernel), putF0]; show 2 < 1000; decide), ?_⟩
    rw [putF0, putF1 (by decide +kernel), putF0, putF1 (by decide +kernel), putF1 (by decide +kernel), putF0, L2.upd_upd, L2.upd_upd]
    exact k
theorem ok_Span_around (T : Tx K mg) : Dn P w K mg base 3 (He.ma K (He.ga K "Span") "around") ["self", "face"] (sp_Span_around K) := by
  refine dn_of T.F_Span_around sc_Span_around (fun _ _ _ _ _ _ us hl => match us, hl with | [_, _], _ => rfl) (fun vs H Q E h => ?_) (fun cdv A outer s H vs Q E hr h => ?_)
  · obtain ⟨_, _, _, _, _, _, _, rfl, _⟩ := h
    rfl
  · obtain ⟨s, a, f, F, Z, G, ⟨lo, hi, adj⟩, rfl, hZ, RI, ⟨dx, v, hs, hv⟩, hf, hF, OF, k⟩ := h
    refine ⟨_, (pss_cons (ps_if (pt_cmpR op_isN (pe_fld (pv 0) rfl) pe_non (nomark _)) (pss_one (ps_ret (pe_disp1 (hu_of hr) (pv 1) pe_int))) pss_nil) (pss_one (ps_ret (pm (pe_fld (pv 0) rfl) T.c_Rolling T.t_Rolling_around (ok_Rolling_around T) hr (pa_cons (pv 1) pa_nil))))), ?_⟩
    refine ⟨_, rfl, s, _, dx, _, _, rfl, hs, T.c_Span, T.a_Span_lying, s_ly, rfl, _, rfl, ?_⟩
    rcases hv with ⟨rfl, hv⟩ | ⟨r, rfl, hv⟩
    · refine ifT (decide_eq_true rfl) ?_
      refine fun q hq => ⟨_, rfl, f, a, rfl, kept hf hq, upd_same, ?_⟩
      rw [L2.upd_upd]
      have s1 : Same H (upd H q (.dT [(f, .int 0)])) := Same.new hq
      refine k _ q (Keep.same s1) (RI.same s1) ⟨RI.out hq, fun z => hZ q z hq⟩ ⟨_, upd_same, List.nodup_cons.mpr ⟨fun z => (nomatch z), List.nodup_nil⟩, by show 1 ≤ 600; decide, fun x v => ?_⟩
      constructor
      · intro h
        by_cases e : f = x
        · rw [valV_pos (p := (f, V.int 0)) (r := []) e] at h
          cases h
          exact ⟨0, rfl, dist_zero.mpr e⟩
        · rw [valV_neg (p := (f, V.int 0)) (r := []) e, valV_nil] at h
          cases h
      · rintro ⟨n, rfl, h⟩
        obtain ⟨rfl, e⟩ := (dist_no hv f x n).mp h
        exact valV_pos (p := (f, V.int 0)) (r := []) e
    · refine ifF (decide_eq_false fun z => nomatch z) ?_
      obtain ⟨nx, rd, g1, g2, B⟩ := id hv
      obtain ⟨d, da, l, m, ⟨dxr, hr1⟩, _⟩ := id B
      exact ⟨_, rfl, s, _, dx, _, _, rfl, hs, T.c_Span, T.a_Span_lying, s_ly, r, dxr, _, rfl, hr1, r_no (by decide +kernel) (by decide +kernel) (by decide +kernel) (by decide +kernel) (by decide +kernel), _, rfl, r, a, f, F, Z, G, adj, rfl, hZ, RI, hv, hf, hF, OF, k⟩
theorem ok_Course_init (T : Tx K mg) : Dn P w K mg base 9 (He.ma K (He.ga K "Course") "__init__") ["self", "shop", "row"] (sp_Course_init K) := by
  refine dn_of T.F_Course_init sc_Course_init (fun _ _ _ _ _ _ us hl => match us, hl with | [_, _, _], _ => rfl) (fun vs H Q E h => ?_) (fun cdv A outer s H vs Q E hr h => ?_)
  · obtain ⟨_, _, _, _, _, _, rfl, _⟩ := h
    rfl
  · obtain ⟨c, dx, sh, lr, S, row, rfl, hc, hS, O, hR, OR, k⟩ := h
    have rlen := OR.len
    refine ⟨_, (pss_cons (ps_expr (pc (ok_want_row T) hr rfl T.g_want_row (pa_cons (pv 1) (pa_cons (pv 2) pa_nil)))) (pss_cons (ps_fld (pv 0) (pe_lst pa_nil) rfl) (pss_cons (ps_fld (pv 0) pe_int rfl) (pss_cons (ps_set (i := 3) sc_Course_init.nd rfl (.inl rfl) pe_dnewN) (pss_one (ps_for PassesOwn.never rfl (pi_list (pv 2)) (pg_name (i := 4) sc_Course_init.nd rfl (.inl rfl)) (pss_cons (ps_set (i := 5) sc_Course_init.nd rfl (.inl rfl) pe_non) (pss_cons (ps_if (pt_cmpR op_eq (pe_ix ix_tup (pv 4) pe_int (fun _ _ => rfl)) pe_str (nomark _)) (pss_cons (ps_set (i := 6) sc_Course_init.nd rfl (.inl rfl) (pe_tup (pa_cons (pe_ix ix_tup (pv 4) pe_int (fun _ _ => rfl)) (pa_cons (pe_callTy call_tuple_of (by rfl) T.n_tuple (by decide +kernel) (pa_cons (pe_ix ix_tup (pv 4) pe_int (fun _ _ => rfl)) pa_nil)) pa_nil)))) (pss_cons (ps_if (pt_cmp (pc_nnotin hr.units (pv 6) (pv 3))) (pss_one (ps_nput hr.units (pv 3) (pv 6) (pk T.m_Rolling (ok_Rolling_init T) hr rfl T.g_Rolling (pa_cons (pv 1) (pa_cons (pe_ix ix_tup (pv 4) pe_int (fun _ _ => rfl)) (pa_cons (pe_ix ix_tup (pv 4) pe_int (fun _ _ => rfl)) pa_nil)))) rfl)) pss_nil) (pss_one (ps_set (i := 5) sc_Course_init.nd rfl (.inl rfl) (pe_nget hr.units (pv 3) (pv 6) (fun _ _ => rfl)))))) pss_nil) (pss_cons (ps_if (pt_cmpR op_gt (pe_ix ix_tup (pv 4) (pe_un un_neg pe_int) (fun _ _ => rfl)) pe_int (nomark _)) (pss_one (ps_expr (pe_bm PySem.F.plainAttrs_list PySem.F.slot_list_append PySem.F.type_list_append mt_append (pe_fld (pv 0) rfl) (pa_cons (pk T.m_Span (ok_Span_init T) hr rfl T.g_Span (pa_cons (pe_fld (pv 0) rfl) (pa_cons (pe_op op_add (pe_fld (pv 0) rfl) (pe_ix ix_tup (pv 4) (pe_un un_neg pe_int) (fun _ _ => rfl))) (pa_cons (pv 5) pa_nil)))) pa_nil)))) pss_nil) (pss_one (ps_fldaug (pv 0) (pe_ix ix_tup (pv 4) (pe_un un_neg pe_int) (fun _ _ => rfl)) in_add))))))))))), ?_⟩
    refine ⟨_, rfl, _, rfl, sh, lr, S, row, rfl, hS, hR, OR, fun H1 s1 => ?_⟩
    have hc1 := s1 _ _ hc
    refine ⟨Nat.zero_le _, fun l hl => ⟨_, rfl, c, _, dx, _, rfl, kept hc1 hl, T.c_Course, T.a_Course_spans, (by show 0 < 1000; decide), ?_⟩⟩
    rw [putF0]
    have ncl : c ≠ l := ne_of_none hc1 hl
    refine ⟨_, rfl, c, _, dx, _, rfl, upd_same, T.c_Course, T.a_Course_total, (by show 1 < 1000; decide), ?_⟩
    rw [putF1 (by decide +kernel), putF0, L2.upd_upd]
    have np3 : NP c H (upd (upd H1 l (.lst [])) c (.ins (He.ga K "Course") dx (fsC l 0))) := (((NP.refl c H).same s1).new (s1.free hl)).put
    have hc3 : upd (upd H1 l (.lst [])) c (.ins (He.ga K "Course") dx (fsC l 0)) c = some (.ins (He.ga K "Course") dx (fsC l 0)) := upd_same
    have hl3 : upd (upd H1 l (.lst [])) c (.ins (He.ga K "Course") dx (fsC l 0)) l = some (.lst []) := by rw [upd_ne ncl.symm, upd_same]
    have hl0 := s1.free hl
    generalize upd (upd H1 l (.lst [])) c (.ins (He.ga K "Course") dx (fsC l 0)) = H3 at np3 hc3 hl3 ⊢
    refine fun kn hkn => ?_
    have hkn0 : H kn = none := by
      cases q : H kn with
      | none => rfl
      | some o =>
        have nb : kn ≠ c := fun z => by rw [z, hc3] at hkn; cases hkn
        have := np3 kn o nb q
        rw [hkn] at this
        cases this
    obtain ⟨ras, hr1, hr2⟩ := id hR
    have lra := Paired.length hr2
    have hr4 : ∀ {H'}, NP c H H' → H' lr = some (.lst (ras.map V.ref)) := fun k => k _ _ (ne_of hr1 hc fun z => nomatch z) hr1
    refine ⟨_, rfl, lr, rfl, ⟨_, SqL.of (hr4 (np3.new hkn0))⟩, for_it walk_listF (fun i σ H' => (∃ x1 x2 x3, σ = [some (.ref c), some (.ref sh), some (.ref lr), some (.ref kn), x1, x2, x3]) ∧ ∃ G xs as, CI P w K S H H' c dx l kn G xs as (totD (row.take i)) (spansFrom S 0 (row.take i)) ∧ xs.length ≤ i)
      ⟨⟨_, _, _, rfl⟩, fun _ => none, [], [], ⟨np3.new hkn0, fun b adj h => (nomatch h), fun b adj h => (nomatch h), kept hc3 hkn, hl0, kept hl3 hkn, .nil, hkn0, upd_same, fun x hx => (nomatch hx)⟩, Nat.le_refl _⟩ (fun i σ H' _ ⟨_, _, _, _, I, _⟩ => SqL.of (hr4 I.np)) ?_ ?_⟩
    · rintro i x σ H4 H5 hi ⟨⟨x1, x2, x3, rfl⟩, G, xs, as, I, xl⟩ ⟨rfl, a, e2, rfl⟩
      obtain ⟨d, e3, hd0⟩ := paired_get hr2 e2
      have hd := hd0.np I.np hc
      have hdok := OR.ok d (List.mem_of_getElem? e3)
      cases d with
      | opn b =>
        have ha : H5 a = some (.tup [.str "open", .int b]) := hd
        refine ⟨_, rfl, a, _, 0, _, rfl, rfl, SqT.of ha, rfl, rfl, _, rfl, ifF (by decide +kernel) ?_⟩
        have hlastA : ∃ ys, H5 a = some (.tup ys) ∧ atI ys (-1) = some (.int b) := ⟨_, ha, rfl⟩
        obtain ⟨ys, hys, hat⟩ := hlastA
        refine ⟨_, rfl, 1, rfl, a, _, -1, _, rfl, rfl, SqT.of hys, hat, _, _, rfl, rfl, _, rfl, ifd (fun hb => ?_) fun hb => ?_⟩
        · refine ⟨_, rfl, c, _, dx, _, _, rfl, I.hc, T.c_Course, T.a_Course_spans, c_sp, .inl ⟨rfl, _, SqL.of I.hl⟩, ?_⟩
          refine ⟨_, rfl, c, _, dx, _, _, rfl, I.hc, T.c_Course, T.a_Course_total, c_to, _, rfl, c, _, dx, _, _, rfl, I.hc, T.c_Course, T.a_Course_total, c_to, _, rfl, 1, rfl, a, _, -1, _, rfl, rfl, SqT.of hys, hat, _, _, rfl, rfl, _, rfl, ?_⟩
          refine fun x dx' hx hdx nex => ⟨x, dx', _, _, _, rfl, upd_same, rfl, ?_⟩
          rw [L2.upd_upd]
          have nxl : l ≠ x := ne_of_none I.hl hx
          have nxd : l ≠ dx' := ne_of_none I.hl hdx
          have la2 := Paired.length I.sp
          have la3 := spans_len S ((row.take i)) 0
          rw [List.length_take] at la3
          have hl2 : upd (upd H5 dx' (.own x)) x (.ins (He.ga K "Span") dx' (fsSp (totD (row.take i)) (totD (row.take i) + b) V.non)) l = some (.lst (as.map V.ref)) := by rw [upd_ne nxl, upd_ne nxd]; exact I.hl
          refine ⟨l, _, _, rfl, rfl, hl2, by rw [List.length_map, la2]; exact small9 (by omega), ?_⟩
          have I5 := CI.span (low := totD (row.take i)) (high := totD (row.take i) + b) hx hdx (adj := adjD S (.opn b)) (.inl ⟨rfl, fun _ _ h => h⟩) I
          have tk5 : TK H5 (upd (upd (upd H5 dx' (.own x)) x (.ins (He.ga K "Span") dx' (fsSp (totD (row.take i)) (totD (row.take i) + b) V.non))) l (.lst (as.map V.ref ++ [.ref x]))) := (TK.same ((Same.new hdx).over hx)).trans (TK.lst hl2)
          have hys5 := tk5 _ _ hys
          refine ⟨_, rfl, c, _, dx, _, _, rfl, I5.hc, T.c_Course, T.a_Course_total, c_to, _, rfl, 1, rfl, a, _, -1, _, rfl, rfl, SqT.of hys5, hat, _, _, rfl, rfl, dx, _, I5.hc, by show 2 < 1000; decide, ?_⟩
          rw [putF1 (by decide +kernel), putFs]
          have I6 := I5.total (t := totD (row.take i) + b)
          have e7 : spanOf S (totD (row.take i)) (Deed.opn b) = [(totD (row.take i), totD (row.take i) + b, adjD S (Deed.opn b))] := if_pos hb
          exact ⟨⟨_, _, _, rfl⟩, G, xs, (as ++ [x]), by rw [List.take_add_one, e3, Option.toList_some, totD_snoc, spans_snoc, Int.zero_add, e7]; exact I6, Nat.le_trans (Nat.le_succ_of_le xl) (Nat.le_refl _)⟩
        · refine ⟨_, rfl, c, _, dx, _, _, rfl, I.hc, T.c_Course, T.a_Course_total, c_to, _, rfl, 1, rfl, a, _, -1, _, rfl, rfl, SqT.of hys, hat, _, _, rfl, rfl, dx, _, I.hc, by show 2 < 1000; decide, ?_⟩
          rw [putF1 (by decide +kernel), putFs]
          have I6 := I.total (t := totD (row.take i) + b)
          have e7 : spanOf S (totD (row.take i)) (Deed.opn b) = [] := if_neg hb
          exact ⟨⟨_, _, _, rfl⟩, G, xs, as, by rw [List.take_add_one, e3, Option.toList_some, totD_snoc, spans_snoc, Int.zero_add, e7, List.append_nil]; exact I6, Nat.le_trans (Nat.le_succ_of_le xl) (Nat.le_refl _)⟩
      | roll d ps b =>
        obtain ⟨lp, ha, hp⟩ := hd
        obtain ⟨o1, o2, o3, o4⟩ := hdok
        refine ⟨_, rfl, a, _, 0, _, rfl, rfl, SqT.of ha, rfl, rfl, _, rfl, ifT (by decide +kernel) ?_⟩
        obtain ⟨pas, hp1, hp2⟩ := hp
        -- key = (deed[1], tuple(deed[2]))
        refine ⟨_, rfl, a, _, 1, _, rfl, rfl, SqT.of ha, rfl, _, rfl, a, _, 2, _, rfl, rfl, SqT.of ha, rfl, lp, _, rfl, .inl ⟨SqL.of hp1, fun t ht => ⟨by show 2 ≤ sizeLine; decide, fun q hq => ?_⟩⟩⟩
        have s6 : Same H5 (upd (upd H5 t (.tup (pas.map V.ref))) q (.tup [.int d, .ref t])) := (Same.new ht).trans (Same.new hq)
        have hq6 : NKAt (upd (upd H5 t (.tup (pas.map V.ref))) q (.tup [.int d, .ref t])) q (d, ps.map Ply.key) := ⟨t, pas, upd_same, kept upd_same hq, hp2.tk (TK.same s6)⟩
        have I6 := I.same s6
        have ha6 := s6 _ _ ha
        have hp6 : PliesAt (upd (upd H5 t (.tup (pas.map V.ref))) q (.tup [.int d, .ref t])) lp ps := ⟨pas, s6 _ _ hp1, hp2.tk (TK.same s6)⟩
        generalize upd (upd H5 t (.tup (pas.map V.ref))) q (.tup [.int d, .ref t]) = H6 at s6 hq6 I6 ha6 hp6 ⊢
        refine ⟨_, rfl, _, rfl, kn, xs, q, (d, ps.map Ply.key), rfl, rfl, I6.hk, fun x hx => (I6.hx x hx).1, hq6, fun hn => ⟨_, rfl, ifT rfl ?_⟩, fun hn => ⟨_, rfl, ifF rfl ?_⟩⟩
        · -- a new rolling
          refine ⟨_, rfl, _, rfl, a, _, 1, _, rfl, rfl, SqT.of ha6, rfl, _, rfl, a, _, 2, _, rfl, rfl, SqT.of ha6, rfl, fun x dx' hx hdx nex => ?_⟩
          have s7 : Same H6 (upd (upd H6 dx' (.own x)) x (.ins (He.ga K "Rolling") dx' [])) := (Same.new hdx).over hx
          refine ⟨x, dx', sh, lp, d, S, ps, rfl, upd_same, (hS.np I6.np hc).kn (Kn.same s7), O, hp6.kn (Kn.same s7), o4, o2, o3, fun H8 nx rd np8 hnx hrd nnr hrd8 B8 => ⟨rfl, ?_⟩⟩
          have s8 : Same H6 H8 := fun b o e => np8 b o (ne_of_none e hx) (s7 _ _ e)
          have hrd6 := s7.free hrd
          have hnx6 := s7.free hnx
          have I8 := I6.roll (adj := AdjOf S d ps) s8 hrd6 hrd8
          have R8 : RollAt K (facesOf S) (moreG G rd (AdjOf S d ps)) H8 x (AdjOf S d ps) := ⟨nx, rd, by rw [moreG_ne nnr]; exact I6.ri.out hnx6, moreG_eq, B8⟩
          have hq8 := hq6.tk (TK.same s8)
          have ha8 := s8 _ _ ha6
          refine ⟨_, rfl, _, rfl, kn, xs, q, (d, ps.map Ply.key), x, rfl, rfl, rfl, I8.hk, fun x hx => (I8.hx x hx).1, hq8, hn, small9 (by omega), ?_⟩
          have I9 := CI.put hq8 R8 I8
          have tk9 : TK H8 (upd H8 kn (rawN P w kn (xs ++ [((d, ps.map Ply.key), q, x)]))) := fun b ys e => by rw [upd_ne (ne_of e I8.hk fun z => nomatch z)]; exact e
          have hq9 := hq8.tk tk9
          have ha9 := tk9 _ _ ha8
          have R9 : RollAt K (facesOf S) (moreG G rd (AdjOf S d ps)) (upd H8 kn (rawN P w kn (xs ++ [((d, ps.map Ply.key), q, x)]))) x (AdjOf S d ps) := let ⟨n1, n2, n3, n4, n5⟩ := R8; ⟨n1, n2, n3, n4, n5.updE I8.hk⟩
          refine ⟨_, rfl, _, rfl, kn, _, q, ((d, ps.map Ply.key), q, x), rfl, rfl, I9.hk, fun x hx => (I9.hx x hx).1, List.mem_append_right _ List.mem_cons_self, hq9, ?_⟩
          have xl9 : (xs ++ [((d, ps.map Ply.key), q, x)]).length ≤ i + 1 := by rw [List.length_append, List.length_singleton]; omega
          generalize xs ++ [((d, ps.map Ply.key), q, x)] = xs9 at I9 R9 ha9 xl9 ⊢
          have hlastA : ∃ ys, (upd H8 kn (rawN P w kn xs9)) a = some (.tup ys) ∧ atI ys (-1) = some (.int b) := ⟨_, ha9, rfl⟩
          obtain ⟨ys, hys, hat⟩ := hlastA
          refine ⟨_, rfl, 1, rfl, a, _, -1, _, rfl, rfl, SqT.of hys, hat, _, _, rfl, rfl, _, rfl, ifd (fun hb => ?_) fun hb => ?_⟩
          · refine ⟨_, rfl, c, _, dx, _, _, rfl, I9.hc, T.c_Course, T.a_Course_spans, c_sp, .inl ⟨rfl, _, SqL.of I9.hl⟩, ?_⟩
            refine ⟨_, rfl, c, _, dx, _, _, rfl, I9.hc, T.c_Course, T.a_Course_total, c_to, _, rfl, c, _, dx, _, _, rfl, I9.hc, T.c_Course, T.a_Course_total, c_to, _, rfl, 1, rfl, a, _, -1, _, rfl, rfl, SqT.of hys, hat, _, _, rfl, rfl, _, rfl, ?_⟩
            refine fun z dz hz hdz nez => ⟨z, dz, _, _, _, rfl, upd_same, rfl, ?_⟩
            rw [L2.upd_upd]
            have nxl : l ≠ z := ne_of_none I9.hl hz
            have nxd : l ≠ dz := ne_of_none I9.hl hdz
            have la2 := Paired.length I9.sp
            have la3 := spans_len S ((row.take i)) 0
            rw [List.length_take] at la3
            have hl2 : upd (upd (upd H8 kn (rawN P w kn xs9)) dz (.own z)) z (.ins (He.ga K "Span") dz (fsSp (totD (row.take i)) (totD (row.take i) + b) (V.ref x))) l = some (.lst (as.map V.ref)) := by rw [upd_ne nxl, upd_ne nxd]; exact I9.hl
            refine ⟨l, _, _, rfl, rfl, hl2, by rw [List.length_map, la2]; exact small9 (by omega), ?_⟩
            have I5 := CI.span (low := totD (row.take i)) (high := totD (row.take i) + b) hz hdz (adj := adjD S (.roll d ps b)) (.inr ⟨x, rfl, R9⟩) I9
            have tk5 : TK (upd H8 kn (rawN P w kn xs9)) (upd (upd (upd (upd H8 kn (rawN P w kn xs9)) dz (.own z)) z (.ins (He.ga K "Span") dz (fsSp (totD (row.take i)) (totD (row.take i) + b) (V.ref x)))) l (.lst (as.map V.ref ++ [.ref z]))) := (TK.same ((Same.new hdz).over hz)).trans (TK.lst hl2)
            have hys5 := tk5 _ _ hys
            refine ⟨_, rfl, c, _, dx, _, _, rfl, I5.hc, T.c_Course, T.a_Course_total, c_to, _, rfl, 1, rfl, a, _, -1, _, rfl, rfl, SqT.of hys5, hat, _, _, rfl, rfl, dx, _, I5.hc, by show 2 < 1000; decide, ?_⟩
            rw [putF1 (by decide +kernel), putFs]
            have I6 := I5.total (t := totD (row.take i) + b)
            have e7 : spanOf S (totD (row.take i)) (Deed.roll d ps b) = [(totD (row.take i), totD (row.take i) + b, adjD S (Deed.roll d ps b))] := if_pos hb
            exact ⟨⟨_, _, _, rfl⟩, (moreG G rd (AdjOf S d ps)), xs9, (as ++ [z]), by rw [List.take_add_one, e3, Option.toList_some, totD_snoc, spans_snoc, Int.zero_add, e7]; exact I6, Nat.le_trans xl9 (Nat.le_refl _)⟩
          · refine ⟨_, rfl, c, _, dx, _, _, rfl, I9.hc, T.c_Course, T.a_Course_total, c_to, _, rfl, 1, rfl, a, _, -1, _, rfl, rfl, SqT.of hys, hat, _, _, rfl, rfl, dx, _, I9.hc, by show 2 < 1000; decide, ?_⟩
            rw [putF1 (by decide +kernel), putFs]
            have I6 := I9.total (t := totD (row.take i) + b)
            have e7 : spanOf S (totD (row.take i)) (Deed.roll d ps b) = [] := if_neg hb
            exact ⟨⟨_, _, _, rfl⟩, (moreG G rd (AdjOf S d ps)), xs9, as, by rw [List.take_add_one, e3, Option.toList_some, totD_snoc, spans_snoc, Int.zero_add, e7, List.append_nil]; exact I6, Nat.le_trans xl9 (Nat.le_refl _)⟩
        · -- known already
          obtain ⟨y, hy, ey⟩ := hn
          obtain ⟨_, d', ps', e4, R6⟩ := I6.hx y hy
          have e5 : (d, ps.map Ply.key) = (d', ps'.map Ply.key) := ey.symm.trans e4
          injection e5 with e5 e6
          have e6 := key_inj e6
          subst e5
          subst e6
          refine ⟨_, rfl, _, rfl, kn, xs, q, y, rfl, rfl, I6.hk, fun x hx => (I6.hx x hx).1, hy, by rw [ey]; exact hq6, ?_⟩
          have hlastA : ∃ ys, H6 a = some (.tup ys) ∧ atI ys (-1) = some (.int b) := ⟨_, ha6, rfl⟩
          obtain ⟨ys, hys, hat⟩ := hlastA
          refine ⟨_, rfl, 1, rfl, a, _, -1, _, rfl, rfl, SqT.of hys, hat, _, _, rfl, rfl, _, rfl, ifd (fun hb => ?_) fun hb => ?_⟩
          · refine ⟨_, rfl, c, _, dx, _, _, rfl, I6.hc, T.c_Course, T.a_Course_spans, c_sp, .inl ⟨rfl, _, SqL.of I6.hl⟩, ?_⟩
            refine ⟨_, rfl, c, _, dx, _, _, rfl, I6.hc, T.c_Course, T.a_Course_total, c_to, _, rfl, c, _, dx, _, _, rfl, I6.hc, T.c_Course, T.a_Course_total, c_to, _, rfl, 1, rfl, a, _, -1, _, rfl, rfl, SqT.of hys, hat, _, _, rfl, rfl, _, rfl, ?_⟩
            refine fun x dx' hx hdx nex => ⟨x, dx', _, _, _, rfl, upd_same, rfl, ?_⟩
            rw [L2.upd_upd]
            have nxl : l ≠ x := ne_of_none I6.hl hx
            have nxd : l ≠ dx' := ne_of_none I6.hl hdx
            have la2 := Paired.length I6.sp
            have la3 := spans_len S ((row.take i)) 0
            rw [List.length_take] at la3
            have hl2 : upd (upd H6 dx' (.own x)) x (.ins (He.ga K "Span") dx' (fsSp (totD (row.take i)) (totD (row.take i) + b) (V.ref y.2.2))) l = some (.lst (as.map V.ref)) := by rw [upd_ne nxl, upd_ne nxd]; exact I6.hl
            refine ⟨l, _, _, rfl, rfl, hl2, by rw [List.length_map, la2]; exact small9 (by omega), ?_⟩
            have I5 := CI.span (low := totD (row.take i)) (high := totD (row.take i) + b) hx hdx (adj := adjD S (.roll d ps b)) (.inr ⟨y.2.2, rfl, R6⟩) I6
            have tk5 : TK H6 (upd (upd (upd H6 dx' (.own x)) x (.ins (He.ga K "Span") dx' (fsSp (totD (row.take i)) (totD (row.take i) + b) (V.ref y.2.2)))) l (.lst (as.map V.ref ++ [.ref x]))) := (TK.same ((Same.new hdx).over hx)).trans (TK.lst hl2)
            have hys5 := tk5 _ _ hys
            refine ⟨_, rfl, c, _, dx, _, _, rfl, I5.hc, T.c_Course, T.a_Course_total, c_to, _, rfl, 1, rfl, a, _, -1, _, rfl, rfl, SqT.of hys5, hat, _, _, rfl, rfl, dx, _, I5.hc, by show 2 < 1000; decide, ?_⟩
            rw [putF1 (by decide +kernel), putFs]
            have I6 := I5.total (t := totD (row.take i) + b)
            have e7 : spanOf S (totD (row.take i)) (Deed.roll d ps b) = [(totD (row.take i), totD (row.take i) + b, adjD S (Deed.roll d ps b))] := if_pos hb
            exact ⟨⟨_, _, _, rfl⟩, G, xs, (as ++ [x]), by rw [List.take_add_one, e3, Option.toList_some, totD_snoc, spans_snoc, Int.zero_add, e7]; exact I6, Nat.le_trans (Nat.le_succ_of_le xl) (Nat.le_refl _)⟩
          · refine ⟨_, rfl, c, _, dx, _, _, rfl, I6.hc, T.c_Course, T.a_Course_total, c_to, _, rfl, 1, rfl, a, _, -1, _, rfl, rfl, SqT.of hys, hat, _, _, rfl, rfl, dx, _, I6.hc, by show 2 < 1000; decide, ?_⟩
            rw [putF1 (by decide +kernel), putFs]
            have I6 := I6.total (t := totD (row.take i) + b)
            have e7 : spanOf S (totD (row.take i)) (Deed.roll d ps b) = [] := if_neg hb
            exact ⟨⟨_, _, _, rfl⟩, G, xs, as, by rw [List.take_add_one, e3, Option.toList_some, totD_snoc, spans_snoc, Int.zero_add, e7, List.append_nil]; exact I6, Nat.le_trans (Nat.le_succ_of_le xl) (Nat.le_refl _)⟩
    · rintro σ H4 ⟨⟨x1, x2, x3, rfl⟩, G, xs, as, I, xl⟩
      rw [lra, List.take_length] at I
      exact k H4 G I.np I.g0 I.ri ⟨dx, l, as, I.hc, I.hl, I.sp⟩
end
end Wm
end
section
set_option Elab.async false
set_option linter.all false
set_option maxRecDepth 100000
set_option maxHeartbeats 4000000
/-! Plain: the moments, as they grow. -/
namespace Wm
open PySem PySem.Spec PyProof.Rows L2 WmM
set_option autoImplicit false
/-- the dict holds these numbers -/
def KF (kvs : List (Fc × V)) (k : Fc → Option Int) : Prop := ∀ x, valV kvs x = (k x).map V.int
theorem KF.put {kvs : List (Fc × V)} {k : Fc → Option Int} (h : KF kvs k) (x0 : Fc) (c : Int) : KF (putK kvs x0 (.int c)) (fun x => if x = x0 then some c else k x) := fun x => by
  rw [valV_put]
  show _ = (if x = x0 then some c else k x).map V.int
  by_cases e : x = x0
  · rw [if_pos e, if_pos e]
    rfl
  · rw [if_neg e, if_neg e]
    exact h x
theorem least_get {C : Int → Prop} {o : Option Int} (h : Least C o) (v : Int) (hv : C v) : ∃ u, o = some u ∧ u ≤ v := h.1 v hv
theorem upd_yes {C : Fc → Int → Prop} {k : Fc → Option Int} {x0 : Fc} {c last : Int} (h : ∀ x, Least (C x) (k x)) (h1 : c ≤ last) (h2 : c < (k x0).getD (c + 1)) : ∀ x, Least (fun v => C x v ∨ (x0 = x ∧ v = c ∧ v ≤ last)) (if x = x0 then some c else k x) := fun x => by
  by_cases e : x = x0
  · rw [if_pos e]
    subst e
    refine ⟨fun v hv => ⟨c, rfl, ?_⟩, fun u hu => ?_⟩
    · rcases hv with hv | ⟨_, rfl, _⟩
      · obtain ⟨u, e1, e2⟩ := (h x).1 v hv
        rw [e1] at h2
        have : c < u := h2
        omega
      · exact Int.le_refl _
    · cases hu
      exact .inr ⟨rfl, rfl, h1⟩
  · rw [if_neg e]
    refine ⟨fun v hv => ?_, fun u hu => .inl ((h x).2 u hu)⟩
    rcases hv with hv | ⟨e', _⟩
    · exact (h x).1 v hv
    · exact absurd e'.symm e
theorem upd_no {C : Fc → Int → Prop} {k : Fc → Option Int} {x0 : Fc} {c last : Int} (h : ∀ x, Least (C x) (k x)) (hn : ¬ (c ≤ last ∧ c < (k x0).getD (c + 1))) : ∀ x, Least (fun v => C x v ∨ (x0 = x ∧ v = c ∧ v ≤ last)) (k x) := fun x => by
  refine ⟨fun v hv => ?_, fun u hu => .inl ((h x).2 u hu)⟩
  rcases hv with hv | ⟨e, rfl, hl⟩
  · exact (h x).1 v hv
  · subst e
    cases q : k x0 with
    | none =>
      rw [q] at hn
      exact absurd ⟨hl, show v < v + 1 by omega⟩ hn
    | some u =>
      rw [q] at hn
      refine ⟨u, rfl, ?_⟩
      rcases Int.lt_or_le v u with z | z
      · exact absurd ⟨hl, z⟩ hn
      · exact z
theorem least_iff {C D : Fc → Int → Prop} {k : Fc → Option Int} (e : ∀ x v, C x v ↔ D x v) (h : ∀ x, Least (C x) (k x)) : ∀ x, Least (D x) (k x) := fun x => least_congr (e x) (h x)
/-- what the faces in proc have told so far -/
def CandP (K : Fc → Option Int) (adj : AdjT) (low last : Int) (proc : List (Fc × Int)) (x : Fc) (v : Int) : Prop := K x = some v ∨ ∃ p ∈ proc, ∃ n : Nat, max p.2 low < last ∧ Dist adj p.1 x n ∧ v = max p.2 low + n ∧ v ≤ last
theorem cand0 {K : Fc → Option Int} {adj : AdjT} {low last : Int} (x : Fc) : Least (CandP K adj low last [] x) (K x) := by
  refine ⟨fun v hv => ?_, fun u hu => .inl hu⟩
  rcases hv with hv | ⟨_, h, _⟩
  · exact ⟨v, hv, Int.le_refl _⟩
  · cases h
/-- all have told -/
theorem cand_all {K R : Fc → Option Int} {adj : AdjT} {low last : Int} {its : List (Fc × Int)} (hi : ∀ f m, (f, m) ∈ its ↔ K f = some m) (h : ∀ x, Least (CandP K adj low last its x) (R x)) : Step adj low last K R := fun x => by
  refine ⟨fun v hv => ?_, fun u hu => ?_⟩
  · rcases hv with hv | ⟨f, m, n, h1, h2, h3, h4, h5⟩
    · exact (h x).1 v (.inl hv)
    · obtain ⟨n', hn, hd⟩ := walk_dist h3
      obtain ⟨u, e1, e2⟩ := (h x).1 (max m low + n') (.inr ⟨(f, m), (hi f m).mpr h1, n', h2, hd, rfl, by omega⟩)
      exact ⟨u, e1, by omega⟩
  · rcases (h x).2 u hu with q | ⟨⟨f, m⟩, h1, n, h2, h3, h4, h5⟩
    · exact .inl q
    · exact .inr ⟨f, m, n, (hi f m).mp h1, h2, h3.1, h4, h5⟩
def StepsS : List Sp3 → Int → (Fc → Option Int) → (Fc → Option Int) → Prop
  | [], _, K, R => R = K
  | s :: r, dry, K, R => ∃ M, Step s.2.2 s.1 (min s.2.1 dry) K M ∧ StepsS r dry M R
theorem stepsS_snoc {s : Sp3} {dry : Int} : ∀ {l : List Sp3} {K M R : Fc → Option Int}, StepsS l dry K M → Step s.2.2 s.1 (min s.2.1 dry) M R → StepsS (l ++ [s]) dry K R
  | [], K, M, R, h, k => by
    have e : M = K := h
    subst e
    exact ⟨R, k, rfl⟩
  | t :: l, K, M, R, ⟨M1, h1, h2⟩, k => ⟨M1, h1, stepsS_snoc h2 k⟩
theorem stepsS_app {dry : Int} : ∀ {l m : List Sp3} {K R : Fc → Option Int}, StepsS (l ++ m) dry K R → ∃ M, StepsS l dry K M ∧ StepsS m dry M R
  | [], m, K, R, h => ⟨K, rfl, h⟩
  | t :: l, m, K, R, ⟨M1, h1, h2⟩ => by
    obtain ⟨M, h3, h4⟩ := stepsS_app h2
    exact ⟨M, ⟨M1, h1, h3⟩, h4⟩
/-- a row as mathematics has it -/
def rwOf (S : Shp) (row : List Deed) : Rw Fc := row.map fun d => (d.b, adjD S d)
theorem step_id {adj : AdjT} {low last : Int} {K : Fc → Option Int} (h : last ≤ low) : Step adj low last K K := fun x => by
  refine ⟨fun v hv => ?_, fun u hu => .inl hu⟩
  rcases hv with hv | ⟨_, m, _, _, h2, _⟩
  · exact ⟨v, hv, Int.le_refl _⟩
  · omega
theorem steps_of {S : Shp} {dry : Int} : ∀ {row : List Deed} {low : Int} {K R : Fc → Option Int}, (∀ d ∈ row, 0 ≤ d.b) → StepsS (spansFrom S low row) dry K R → Steps (rwOf S row) low dry K R
  | [], low, K, R, _, h => h
  | d :: row, low, K, R, hn, h => by
    have h' : StepsS (spanOf S low d ++ spansFrom S (low + d.b) row) dry K R := h
    obtain ⟨M, h1, h2⟩ := stepsS_app h'
    refine ⟨M, ?_, steps_of (fun e he => hn e (List.mem_cons_of_mem _ he)) h2⟩
    show Step (adjD S d) low (min (low + d.b) dry) K M
    unfold spanOf at h1
    by_cases hb : 0 < d.b
    · rw [if_pos hb] at h1
      obtain ⟨M1, h3, h4⟩ := h1
      have e : M = M1 := h4
      subst e
      exact h3
    · rw [if_neg hb] at h1
      have e : M = K := h1
      subst e
      have := hn d List.mem_cons_self
      exact step_id (by omega)
theorem tot_of {S : Shp} : ∀ row : List Deed, tot (rwOf S row) = totD row
  | [] => rfl
  | d :: row => by
    have := tot_of (S := S) row
    show d.b + tot (rwOf S row) = totD (d :: row)
    rw [this]
    simp [totD]
theorem nn_of {S : Shp} {row : List Deed} (h : ∀ d ∈ row, 0 ≤ d.b) : NN (rwOf S row) := fun p hp => by
  obtain ⟨d, hd, rfl⟩ := List.mem_map.mp hp
  exact h d hd
/-- where it starts -/
def K1 (f : Fc) : Fc → Option Int := fun x => if x = f then some 0 else none
theorem K1_bd (f : Fc) : Bd (K1 f) 0 := fun x v h => by
  unfold K1 at h
  split at h
  · cases h
    exact Int.le_refl _
  · cases h
/-- lists of faces with numbers -/
abbrev numV (p : Fc × Int) : Fc × V := (p.1, .int p.2)
theorem ints_of : ∀ {kvs : List (Fc × V)}, (∀ e ∈ kvs, ∃ m, e.2 = V.int m) → ∃ its : List (Fc × Int), kvs = its.map numV
  | [], _ => ⟨[], rfl⟩
  | e :: kvs, h => by
    obtain ⟨m, hm⟩ := h e List.mem_cons_self
    obtain ⟨its, ht⟩ := ints_of fun a ha => h a (List.mem_cons_of_mem _ ha)
    exact ⟨(e.1, m) :: its, by rw [ht, List.map_cons]; show e :: _ = (e.1, V.int m) :: _; rw [← hm]⟩
theorem valV_of_nodup {k : Fc} {v : V} : ∀ {kvs : List (Fc × V)}, (kvs.map (·.1)).Nodup → ((k, v) ∈ kvs ↔ valV kvs k = some v)
  | [], _ => by rw [valV_nil]; exact ⟨fun h => (nomatch h), fun h => (nomatch h)⟩
  | p :: r, n => by
    rw [List.map_cons, List.nodup_cons] at n
    by_cases e : p.1 = k
    · rw [valV_pos e, List.mem_cons]
      constructor
      · rintro (h | h)
        · rw [← h]
        · exact absurd (List.mem_map.mpr ⟨_, h, rfl⟩) (by rw [← e] ; exact n.1)
      · intro h
        have h := Option.some.inj h
        left
        rw [← e, ← h]
    · rw [valV_neg e, List.mem_cons, ← valV_of_nodup n.2]
      constructor
      · rintro (h | h)
        · rw [← h] at e
          exact absurd rfl e
        · exact h
      · exact .inr
theorem its_of {kvs : List (Fc × V)} {k : Fc → Option Int} (n : (kvs.map (·.1)).Nodup) (h : KF kvs k) : ∃ its : List (Fc × Int), kvs = its.map numV ∧ ∀ f m, (f, m) ∈ its ↔ k f = some m := by
  have h1 : ∀ e ∈ kvs, ∃ m, e.2 = V.int m := fun e he => by
    have q := (valV_of_nodup (k := e.1) (v := e.2) n).mp he
    rw [h] at q
    cases e2 : k e.1 with
    | none => rw [e2] at q; cases q
    | some m =>
      rw [e2] at q
      exact ⟨m, (Option.some.inj q).symm⟩
  obtain ⟨its, rfl⟩ := ints_of h1
  refine ⟨its, rfl, fun f m => ?_⟩
  have q := valV_of_nodup (k := f) (v := V.int m) n
  rw [h f] at q
  have q2 : (f, m) ∈ its ↔ (f, V.int m) ∈ its.map numV := by
    constructor
    · intro hm
      exact List.mem_map.mpr ⟨(f, m), hm, rfl⟩
    · intro hm
      obtain ⟨⟨f', m'⟩, hm', e⟩ := List.mem_map.mp hm
      injection e with e1 e2
      injection e2 with e2
      have e1 : f' = f := e1
      have e2 : m' = m := e2
      subst e1 e2
      exact hm'
  rw [q2, q]
  cases k f with
  | none => exact ⟨fun h => (nomatch h), fun h => (nomatch h)⟩
  | some u =>
    constructor
    · intro h
      injection h with h
      injection h with h
      rw [h]
    · intro h
      cases h
      rfl
end Wm
end
section
set_option Elab.async false
set_option linter.all false
set_option maxRecDepth 100000
set_option maxHeartbeats 4000000
/-! first_moments: walked. -/
namespace Wm
open PySem PySem.Spec PyProof.Rows L2 WmM
set_option autoImplicit false
theorem walk_itemsT {d : Addr} {o : Obj} {kvs : List (List Key × V)} : Walk (Itit d o kvs) kvs.length (fun H => H d = some (.frz o (.dT kvs))) (fun i H x H' => ∃ T k v q, kvs[i]? = some (k, v) ∧ x = .ref T ∧ H T = none ∧ H q = some (.tup (List.map kV k)) ∧ H' = upd H T (.tup [.ref q, v])) :=
  ⟨fun _ _ hi h => ⟨h, hi⟩, fun _ h => ⟨h, Nat.le_refl _⟩, fun _ _ _ _ _ _ y => y⟩
theorem RInv.imp {F : List Fc} {Z Z' : Addr → Prop} {G : Gh} {H : Hp} (h : ∀ b, Z' b → Z b) (R : RInv F Z G H) : RInv F Z' G H := fun a adj e => by
  obtain ⟨kvs, h1, h2, h3, h4⟩ := R a adj e
  exact ⟨kvs, h1, h2, h3, fun k v hv => let ⟨q, e1, e2, e3⟩ := h4 k v hv; ⟨q, e1, ⟨e2.1, fun z => e2.2 (h q z)⟩, e3⟩⟩
theorem RInv.addZ {F : List Fc} {Z : Addr → Prop} {G : Gh} {H : Hp} {q : Addr} (n : H q = none) (R : RInv F Z G H) : RInv F (fun b => b = q ∨ Z b) G H := fun a adj e => by
  obtain ⟨kvs, h1, h2, h3, h4⟩ := R a adj e
  exact ⟨kvs, h1, h2, h3, fun k v hv => let ⟨q', e1, e2, e3⟩ := h4 k v hv; ⟨q', e1, ⟨e2.1, fun z => z.elim (fun z => by obtain ⟨kv, h5, _⟩ := e3; rw [z, n] at h5; cases h5) e2.2⟩, e3⟩⟩
/-- all but q kept -/
theorem RInv.but {F : List Fc} {Z : Addr → Prop} {G : Gh} {H H' : Hp} {q : Addr} (zq : Z q) (g : G q = none) (k : ∀ b o, b ≠ q → H b = some o → H' b = some o) (R : RInv F Z G H) : RInv F Z G H' := fun a adj e => by
  obtain ⟨kvs, h1, h2, h3, h4⟩ := R a adj e
  have na : a ≠ q := fun z => by rw [z, g] at e; cases e
  refine ⟨kvs, k _ _ na h1, h2, h3, fun x v hv => ?_⟩
  obtain ⟨q', e1, e2, kv, e3, e4⟩ := h4 x v hv
  exact ⟨q', e1, e2, kv, k _ _ (fun z => e2.2 (by rw [z]; exact zq)) e3, e4⟩
theorem ds_of {adj : AdjT} {g : Fc} {dk : List (Fc × V)} (n : (dk.map (·.1)).Nodup) (h : ∀ x v, valV dk x = some v ↔ ∃ n : Nat, v = .int n ∧ Dist adj g x n) : ∃ ds : List (Fc × Int), dk = ds.map numV ∧ ∀ x m, (x, m) ∈ ds ↔ ∃ n : Nat, m = n ∧ Dist adj g x n := by
  have h1 : ∀ e ∈ dk, ∃ m, e.2 = V.int m := fun e he => by
    have q := (valV_of_nodup (k := e.1) (v := e.2) n).mp he
    obtain ⟨u, hu, _⟩ := (h e.1 e.2).mp q
    exact ⟨u, hu⟩
  obtain ⟨ds, rfl⟩ := ints_of h1
  refine ⟨ds, rfl, fun x m => ?_⟩
  have q := (valV_of_nodup (k := x) (v := V.int m) n).trans (h x (.int m))
  have q2 : (x, m) ∈ ds ↔ (x, V.int m) ∈ ds.map numV := by
    constructor
    · intro hm
      exact List.mem_map.mpr ⟨(x, m), hm, rfl⟩
    · intro hm
      obtain ⟨⟨f', m'⟩, hm', e⟩ := List.mem_map.mp hm
      injection e with e1 e2
      injection e2 with e2
      have e1 : f' = x := e1
      have e2 : m' = m := e2
      subst e1 e2
      exact hm'
  rw [q2, q]
  constructor
  · rintro ⟨u, e, hd⟩
    injection e with e
    exact ⟨u, e, hd⟩
  · rintro ⟨u, e, hd⟩
    exact ⟨u, by rw [e], hd⟩
theorem keys_old {k : Fc} {v : V} {kvs : List (Fc × V)} (h : (valV kvs k).isSome = true) : (putK kvs k v).map (·.1) = kvs.map (·.1) := by
  unfold putK
  rw [valV_any, if_pos h, List.map_map]
  refine List.map_congr_left fun x _ => ?_
  show (if x.1 = k then (x.1, v) else x).1 = x.1
  split <;> rfl
theorem nodup_put {k : Fc} {v : V} {kvs : List (Fc × V)} (n : (kvs.map (·.1)).Nodup) : ((putK kvs k v).map (·.1)).Nodup := by
  cases e : valV kvs k with
  | none => exact nodup_new e n
  | some u =>
    rw [keys_old (by rw [e]; rfl)]
    exact n
theorem keys_put {F : List Fc} {k : Fc} {v : V} {kvs : List (Fc × V)} (h : ∀ x ∈ kvs.map (·.1), x ∈ F) (hk : k ∈ F) : ∀ x ∈ (putK kvs k v).map (·.1), x ∈ F := by
  cases e : valV kvs k with
  | none => exact keys_in e h hk
  | some u =>
    rw [keys_old (by rw [e]; rfl)]
    exact h
theorem dist_in {K : PySem.W.Frag} {F : List Fc} {G : Gh} {H : Hp} {s : Addr} {p : Sp3} (h : SpanAt K F G H s p) {g x : Fc} (hg : g ∈ F) {n : Nat} (hd : Dist p.2.2 g x n) : x ∈ F := by
  cases n with
  | zero => rw [← dist_zero.mp hd]; exact hg
  | succ n =>
    obtain ⟨y, _, ha⟩ := dist_pred hd
    obtain ⟨_, v, _, h⟩ := h
    rcases h with ⟨_, h⟩ | ⟨r, _, nx, rd, _, _, d, a, l, m, _, _, _, h, _⟩
    · exact absurd ha (h _ _)
    · exact (h _ _ ha).2
theorem alive {F : List Fc} {Z : Addr → Prop} {G : Gh} {H H' : Hp} (R : RInv F Z G H') (k : Keep G H H') {b : Addr} (h : H b ≠ none) : H' b ≠ none := fun z => by
  cases e : H b with
  | none => exact h e
  | some o =>
    rw [k _ _ (R.out z) e] at z
    cases z
def sp_first_moments (K : PySem.W.Frag) : Sp := fun vs H Q _ => ∃ (c st : Addr) (dry : Int) (f : Fc) (F : List Fc) (Z : Addr → Prop) (G : Gh) (sps : List Sp3) (tot : Int), vs = [.ref c, .ref st, .int dry] ∧ (∀ b, Z b → H b ≠ none) ∧ RInv F Z G H ∧ CourseAt K F G H c sps tot ∧ H st = some (.dT [(f, .int 0)]) ∧ f ∈ F ∧ FsOk F ∧
  ∀ H' q kvs k, Keep G H H' → RInv F Z G H' → H q = none → G q = none → H' q = some (.dT kvs) → KF kvs k → StepsS sps dry (K1 f) k → (kvs.map (·.1)).Nodup → (∀ x ∈ kvs.map (·.1), x ∈ F) → Q (.ref q) H'
section
variable {P : Program} {w : World} {K : PySem.W.Frag} {mg : Str → Option Value} {base : Heap}
theorem ok_first_moments (T : Tx K mg) : Dn P w K mg base 4 (He.ga K "first_moments") ["course", "starts", "dry"] (sp_first_moments K) := by
  refine dn_of T.F_first_moments sc_first_moments (fun _ _ _ _ _ _ us hl => match us, hl with | [_, _, _], _ => rfl) (fun vs H Q E h => ?_) (fun cdv A outer s H vs Q E hr h => ?_)
  · obtain ⟨_, _, _, _, _, _, _, _, _, rfl, _⟩ := h
    rfl
  · obtain ⟨c, st, dry, f, F, Z, G, sps, tot, rfl, hZ, RI, CA, hst, hF, OF, k⟩ := h
    obtain ⟨dx, l, as, hc, hl, pS⟩ := id CA
    have kn : ∀ {H'}, Keep G H H' → Kn H H' := fun k => k.kn RI
    refine ⟨_, (pss_cons (ps_set (i := 3) sc_first_moments.nd rfl (.inl rfl) (pe_callTy (cr_dict1 hr.units) (by rfl) T.n_dict (by decide +kernel) (pa_cons (pv 1) pa_nil))) (pss_cons (ps_for PassesOwn.never rfl (pi_list (pe_fld (pv 0) rfl)) (pg_name (i := 4) sc_first_moments.nd rfl (.inl rfl)) (pss_cons (ps_set (i := 5) sc_first_moments.nd rfl (.inl rfl) (pe_callB (cr_min2I rfl hr.units) (by rfl) T.n_min (by decide +kernel) (pa_cons (pe_fld (pv 4) rfl) (pa_cons (pv 2) pa_nil)))) (pss_one (ps_for PassesOwn.never rfl (pi_list (pe_listIt rfl (pv 3) (by rfl) T.n_list (by decide +kernel))) (pg_tup (by rfl) (pgs_cons (pg_name (i := 6) sc_first_moments.nd rfl (.inl rfl)) (pgs_cons (pg_name (i := 7) sc_first_moments.nd rfl (.inl rfl)) pgs_nil))) (pss_cons (ps_set (i := 8) sc_first_moments.nd rfl (.inl rfl) (pe_callB (cr_max2I rfl hr.units) (by rfl) T.n_max (by decide +kernel) (pa_cons (pv 7) (pa_cons (pe_fld (pv 4) rfl) pa_nil)))) (pss_one (ps_if (pt_cmpR op_lt (pv 8) (pv 5) (nomark _)) (pss_one (ps_unl (ps_for PassesOwn.never rfl (pi_itT (pm (pv 4) T.c_Span T.t_Span_around (ok_Span_around T) hr (pa_cons (pv 6) pa_nil))) (pg_tup (by rfl) (pgs_cons (pg_name (i := 9) sc_first_moments.nd rfl (.inl rfl)) (pgs_cons (pg_name (i := 10) sc_first_moments.nd rfl (.inl rfl)) pgs_nil))) (pss_one (ps_if (PW.pt (pw_and (pt_cmpR op_le (pe_op op_add (pv 8) (pv 10)) (pv 5) (nomark _)) (pw_and1 (pt_cmpR op_lt (pe_op op_add (pv 8) (pv 10)) (pe_dget2 (hu_of hr) (pv 3) (pv 9) (pe_op op_add (pe_op op_add (pv 8) (pv 10)) pe_int) ⟨rfl, rfl, rfl, rfl⟩) (nomark _))))) (pss_one (ps_dput (hu_of hr) (pv 3) (pv 9) (pe_op op_add (pv 8) (pv 10)) rfl)) pss_nil))))) pss_nil))))))) (pss_one (ps_ret (pv 3))))), ?_⟩
    refine ⟨_, rfl, st, f, _, rfl, .of hst, fun q hq => ?_⟩
    have gq : G q = none := RI.out hq
    have s1 : Same H (upd H q (.dT [(f, .int 0)])) := Same.new hq
    have R1 : RInv F (fun b => b = q ∨ Z b) G (upd H q (.dT [(f, .int 0)])) := (RI.addZ hq).same s1
    have kf1 : KF [(f, .int 0)] (K1 f) := fun x => by
      unfold K1
      by_cases e : x = f
      · rw [if_pos e, valV_pos (p := (f, V.int 0)) (r := []) e.symm]
        rfl
      · rw [if_neg e, valV_neg (p := (f, V.int 0)) (r := []) (fun z => e z.symm), valV_nil]
        rfl
    refine ⟨_, rfl, c, _, dx, _, _, rfl, s1 _ _ hc, T.c_Course, T.a_Course_spans, c_sp, l, rfl, ⟨_, SqL.of (s1 _ _ hl)⟩, for_it walk_listF (fun i σ H' => (∃ x4 x5 x6 x7 x8 x9 x10, σ = [some (.ref c), some (.ref st), some (.int dry), some (.ref q), x4, x5, x6, x7, x8, x9, x10]) ∧ Keep G H H' ∧ RInv F (fun b => b = q ∨ Z b) G H' ∧
        ∃ kvs k, H' q = some (.dT kvs) ∧ KF kvs k ∧ StepsS (sps.take i) dry (K1 f) k ∧ (kvs.map (·.1)).Nodup ∧ ∀ x ∈ kvs.map (·.1), x ∈ F)
      ⟨⟨_, _, _, _, _, _, _, rfl⟩, Keep.same s1, R1, _, K1 f, upd_same, kf1, rfl, List.nodup_cons.mpr ⟨fun z => (nomatch z), List.nodup_nil⟩, fun x hx => by rw [List.mem_singleton.mp hx]; exact hF⟩ (fun i σ H' _ z => SqL.of (kn z.2.1 _ _ hl rfl)) ?_ ?_⟩
    · rintro i x σ H2 H3 hi ⟨⟨x4, x5, x6, x7, x8, x9, x10, rfl⟩, K2, R2, kvs, kk, hq2, kf2, st2, nd2, kF2⟩ ⟨rfl, s, e2, rfl⟩
      obtain ⟨⟨lo, hh, adj⟩, e3, hs0⟩ := paired_get pS e2
      have hs2 : SpanAt K F G H3 s (lo, hh, adj) := hs0.keep RI K2
      obtain ⟨sx, sv, hsi, _⟩ := id hs2
      -- last = min(span.high, dry)
      refine ⟨_, rfl, s, _, sx, _, _, rfl, hsi, T.c_Span, T.a_Span_high, s_hi, _, rfl, _, _, rfl, ?_⟩
      -- for face, moment in list(known.items())
      refine ⟨_, rfl, q, kvs, rfl, hq2, fun H4 p ts s4 hp4 hpl hts => ?_⟩
      obtain ⟨its, eits, hits⟩ := its_of nd2 kf2
      have lts : ts.length = its.length := by
        have := Paired.length hts
        rw [this, eits, List.length_map]
      have npq : p ≠ q := (ne_of_none hq2 hp4).symm
      refine ⟨p, rfl, ⟨_, SqL.of hpl⟩, for_it walk_listF (fun j σ H' => (∃ x6 x7 x8 x9 x10, σ = [some (.ref c), some (.ref st), some (.int dry), some (.ref q), some (.ref s), some (.int (min hh dry)), x6, x7, x8, x9, x10]) ∧ (∀ b o, G b = none → b ≠ q → H4 b = some o → H' b = some o) ∧ Keep G H H' ∧ RInv F (fun b => b = q ∨ Z b) G H' ∧
          ∃ kvs' k', H' q = some (.dT kvs') ∧ KF kvs' k' ∧ (∀ x, Least (CandP kk adj lo (min hh dry) (its.take j) x) (k' x)) ∧ (kvs'.map (·.1)).Nodup ∧ ∀ x ∈ kvs'.map (·.1), x ∈ F)
        ⟨⟨_, _, _, _, _, rfl⟩, fun _ _ _ _ e => e, K2.trans (Keep.same s4), R2.same s4, kvs, kk, s4 _ _ hq2, kf2, fun x => by rw [List.take_zero]; exact cand0 x, nd2, kF2⟩ (fun j σ H' _ z => SqL.of (z.2.1 _ _ (R2.out hp4) npq hpl)) ?_ ?_⟩
      · rintro j x σ H5 H5' hj ⟨⟨x6, x7, x8, x9, x10, rfl⟩, M5, K5, R5, kvs', k', hq5, kf5, ca5, nd5, kF5⟩ ⟨rfl, t, et, rfl⟩
        have R4 := R2.same s4
        have hq4 := s4 _ _ hq2
        have tk5 : TK H4 H5' := fun a xs e => M5 a _ (R4.dT e rfl) (ne_of e hq4 fun z => nomatch z) e
        obtain ⟨⟨g, v⟩, eg, b, htt, hb4⟩ := paired_get hts et
        rw [eits] at eg
        obtain ⟨⟨g', m⟩, ei, eg2⟩ := map_at eg
        injection eg2 with e5 e6
        have e5 : g = g' := e5
        subst e5
        subst e6
        have htt5 := tk5 _ _ htt
        have hb5 : TupF H5' b g := tk5 _ _ hb4
        have hs5 : SpanAt K F G H5' s (lo, hh, adj) := hs0.keep RI K5
        obtain ⟨sx5, sv5, hsi5, _⟩ := id hs5
        have gF : g ∈ F := by
          have q : (g, V.int m) ∈ kvs := by rw [eits]; exact List.mem_map.mpr ⟨(g, m), List.mem_of_getElem? ei, rfl⟩
          exact kF2 g (List.mem_map.mpr ⟨_, q, rfl⟩)
        refine ⟨t, _, rfl, SqT.of htt5, rfl, _, _, rfl, _, _, rfl, rfl, ?_⟩
        refine ⟨_, rfl, _, rfl, s, _, sx5, _, _, rfl, hsi5, T.c_Span, T.a_Span_low, s_lo, _, _, rfl, ?_⟩
        refine ⟨_, rfl, _, rfl, _, _, rfl, rfl, _, rfl, ifd (fun hb => ?_) fun hb => ?_⟩
        · refine ⟨_, rfl, s, sx5, _, rfl, hsi5, s_ar, _, rfl, s, b, g, F, (fun b => b = q ∨ Z b), G, (lo, hh, adj), rfl, fun b' (z : b' = q ∨ Z b') => z.elim (fun z => by rw [z, hq5]; exact (fun y => nomatch y)) (fun z => alive R5 K5 (hZ _ z)), R5, hs5, hb5, gF, OF, fun H6 d K6 R6 gz6 ⟨dk, hd6, dnd, dlen, dval⟩ => ⟨d, dk, rfl, hd6, fun od hnf => ?_⟩⟩
          have ndq : d ≠ q := fun z => gz6.2 (.inl z)
          have hq6 := K6 _ _ gq hq5
          obtain ⟨ds, eds, hds⟩ := ds_of dnd dval
          have lds : dk.length = ds.length := by rw [eds, List.length_map]
          refine for_it walk_itemsT (fun n σ H' => (∃ x9 x10, σ = [some (.ref c), some (.ref st), some (.int dry), some (.ref q), some (.ref s), some (.int (min hh dry)), some (.ref b), some (.int m), some (.int (max m lo)), x9, x10]) ∧ (∀ b o, b ≠ d → b ≠ q → H6 b = some o → H' b = some o) ∧ H' d = some (.frz od (.dT dk)) ∧
            ∃ kvs' k', H' q = some (.dT kvs') ∧ KF kvs' k' ∧ (∀ x, Least (fun v => CandP kk adj lo (min hh dry) (its.take j) x v ∨ ∃ e ∈ ds.take n, e.1 = x ∧ v = max m lo + e.2 ∧ v ≤ min hh dry) (k' x)) ∧ (kvs'.map (·.1)).Nodup ∧ ∀ x ∈ kvs'.map (·.1), x ∈ F)
            ⟨⟨_, _, rfl⟩, fun b o h1 h2 e => by rw [upd_ne h1]; exact e, upd_same, kvs', k', by rw [upd_ne ndq.symm]; exact hq6, kf5, least_iff (fun x v => by simp) ca5, nd5, kF5⟩ (fun n σ H' _ z => z.2.2.1) ?_ ?_
          · rintro n x σ H7 H8 hn ⟨⟨x9, x10, rfl⟩, M7, hf7, kvs7, k7, hq7, kf7, ca7, nd7, kF7⟩ ⟨TT, x0, v, qk, en, rfl, hT, hqk, rfl⟩
            rw [eds] at en
            obtain ⟨⟨x0', far⟩, en2, en3⟩ := map_at en
            injection en3 with e7 e8
            have e7 : x0 = x0' := e7
            subst e7
            subst e8
            have hx0F : x0 ∈ F := by
              obtain ⟨n', _, hd⟩ := (hds x0 far).mp (List.mem_of_getElem? en2)
              exact dist_in hs5 gF hd
            have s8 : Same H7 (upd H7 TT (.tup [.ref qk, V.int far])) := Same.new hT
            refine ⟨TT, _, rfl, SqT.of upd_same, rfl, _, _, rfl, _, _, rfl, rfl, ?_⟩
            generalize upd H7 TT (.tup [.ref qk, V.int far]) = H8 at s8 ⊢
            have hq8 := s8 _ _ hq7
            have hk8 : TupF H8 qk x0 := s8 _ _ hqk
            have M8 : ∀ b o, b ≠ d → b ≠ q → H6 b = some o → H8 b = some o := fun b o h1 h2 e => s8 _ _ (M7 b o h1 h2 e)
            have hf8 := s8 _ _ hf7
            have kl7 := keys_len OF nd7 kF7
            have conv : ∀ (k9 : Fc → Option Int), (∀ x, Least (fun v => (CandP kk adj lo (min hh dry) (its.take j) x v ∨ ∃ e ∈ ds.take n, e.1 = x ∧ v = max m lo + e.2 ∧ v ≤ min hh dry) ∨ (x0 = x ∧ v = max m lo + far ∧ v ≤ min hh dry)) (k9 x)) → ∀ x, Least (fun v => CandP kk adj lo (min hh dry) (its.take j) x v ∨ ∃ e ∈ ds.take (n + 1), e.1 = x ∧ v = max m lo + e.2 ∧ v ≤ min hh dry) (k9 x) := fun k9 h => least_iff (fun x v => by
              rw [List.take_add_one, en2]
              simp only [Option.toList_some, List.mem_append, List.mem_singleton]
              constructor
              · rintro ((h | ⟨e, h1, h2⟩) | h)
                · exact .inl h
                · exact .inr ⟨e, .inl h1, h2⟩
                · exact .inr ⟨(x0, far), .inr rfl, h⟩
              · rintro (h | ⟨e, h1 | rfl, h2⟩)
                · exact .inl (.inl h)
                · exact .inl (.inr ⟨e, h1, h2⟩)
                · exact .inr h2) h
            have noput : ¬ (max m lo + far ≤ min hh dry ∧ max m lo + far < (k7 x0).getD (max m lo + far + 1)) → ∃ kvs' k', H8 q = some (.dT kvs') ∧ KF kvs' k' ∧ (∀ x, Least (fun v => CandP kk adj lo (min hh dry) (its.take j) x v ∨ ∃ e ∈ ds.take (n + 1), e.1 = x ∧ v = max m lo + e.2 ∧ v ≤ min hh dry) (k' x)) ∧ (kvs'.map (·.1)).Nodup ∧ ∀ x ∈ kvs'.map (·.1), x ∈ F := fun hno => ⟨kvs7, k7, hq8, kf7, conv k7 (upd_no ca7 hno), nd7, kF7⟩
            refine ⟨_, rfl, _, rfl, _, _, rfl, rfl, _, rfl, _, _, rfl, rfl, _, rfl, ifd (fun h1 => ?_) fun h1 => iteF ⟨⟨_, _, rfl⟩, M8, hf8, noput fun z => h1 z.1⟩⟩
            have eg : (valV kvs7 x0).getD (V.int (max m lo + far + 1)) = V.int ((k7 x0).getD (max m lo + far + 1)) := by
              rw [kf7 x0]
              cases k7 x0 <;> rfl
            refine ⟨_, rfl, _, rfl, _, _, rfl, rfl, _, rfl, q, rfl, .inr ⟨kvs7, .of hq8⟩, _, rfl, _, rfl, _, rfl, _, _, rfl, rfl, _, _, rfl, rfl, _, DGet.t hq8 hk8, _, _, rfl, eg, _, rfl, ifd (fun h2 => ?_) fun h2 => ⟨⟨_, _, rfl⟩, M8, hf8, noput fun z => h2 z.2⟩⟩
            refine ⟨_, rfl, _, rfl, _, _, rfl, rfl, _, rfl, _, rfl, q, _, rfl, DPut.t hq8 hk8 (small9 (by omega)), ?_⟩
            have hdq : d ≠ q := ndq
            refine ⟨⟨_, _, rfl⟩, fun b o z1 z2 e => by rw [upd_ne z2]; exact M8 b o z1 z2 e, by rw [upd_ne hdq]; exact hf8, putK kvs7 x0 (.int (max m lo + far)), (fun x => if x = x0 then some (max m lo + far) else k7 x), upd_same, kf7.put x0 _, conv _ (upd_yes ca7 h1 h2), ?_, ?_⟩
            · exact nodup_put nd7
            · exact keys_put kF7 hx0F
          · rintro σ H7 ⟨⟨x9, x10, rfl⟩, M7, hf7, kvs7, k7, hq7, kf7, ca7, nd7, kF7⟩
            rw [lds, List.take_length] at ca7
            refine ⟨d, od, .dT dk, hf7, hnf, ?_⟩
            have M8 : ∀ b o, b ≠ q → H6 b = some o → upd H7 d (.dT dk) b = some o := fun b o n e => by
              by_cases z : b = d
              · rw [z] at e ⊢
                rw [hd6] at e
                rw [upd_same]
                exact e
              · rw [upd_ne z]
                exact M7 b o z n e
            refine ⟨⟨_, _, _, _, _, rfl⟩, fun b o g1 n1 e => M8 b o n1 (K6 b o g1 (M5 b o g1 n1 e)), fun b o g1 e => M8 b o (ne_of_none e hq) (K6 b o g1 (K5 b o g1 e)), R6.but (.inl rfl) gq M8, kvs7, k7, by rw [upd_ne ndq.symm]; exact hq7, kf7, least_iff (fun x v => ?_) ca7, nd7, kF7⟩
            rw [List.take_add_one, ei]
            simp only [CandP, Option.toList_some, List.mem_append, List.mem_singleton]
            constructor
            · rintro ((h | ⟨p', h1, h2⟩) | ⟨⟨x1, m1⟩, h1, rfl, h2, h3⟩)
              · exact .inl h
              · exact .inr ⟨p', .inl h1, h2⟩
              · obtain ⟨n', e1, e2⟩ := (hds x1 m1).mp h1
                refine .inr ⟨(g, m), .inr rfl, n', hb, e2, ?_, h3⟩
                rw [h2, e1]
            · rintro (h | ⟨p', h1 | rfl, n', h2, h3, h4, h5⟩)
              · exact .inl (.inl h)
              · exact .inl (.inr ⟨p', h1, n', h2, h3, h4, h5⟩)
              · exact .inr ⟨(x, n'), (hds x n').mpr ⟨n', rfl, h3⟩, rfl, h4, h5⟩
        · refine ⟨⟨_, _, _, _, _, rfl⟩, M5, K5, R5, kvs', k', hq5, kf5, least_iff (fun x v => ?_) ca5, nd5, kF5⟩
          rw [List.take_add_one, ei]
          simp only [CandP, Option.toList_some, List.mem_append, List.mem_singleton]
          constructor
          · rintro (h | ⟨p', h1, h2⟩)
            · exact .inl h
            · exact .inr ⟨p', .inl h1, h2⟩
          · rintro (h | ⟨p', h1 | rfl, n', h2, _⟩)
            · exact .inl h
            · exact .inr ⟨p', h1, n', h2, by assumption⟩
            · exact absurd h2 hb
      · rintro σ H5 ⟨⟨x6, x7, x8, x9, x10, rfl⟩, M5, K5, R5, kvs', k', hq5, kf5, ca5, nd5, kF5⟩
        rw [lts, List.take_length] at ca5
        refine ⟨⟨_, _, _, _, _, _, _, rfl⟩, K5, R5, kvs', k', hq5, kf5, ?_, nd5, kF5⟩
        rw [List.take_add_one, e3, Option.toList_some]
        exact stepsS_snoc st2 (cand_all hits ca5)
    · rintro σ H2 ⟨⟨x4, x5, x6, x7, x8, x9, x10, rfl⟩, K2, R2, kvs, kk, hq2, kf2, st2, nd2, kF2⟩
      rw [Paired.length pS, List.take_length] at st2
      exact ⟨_, rfl, k H2 q kvs kk K2 (R2.imp fun b z => .inr z) hq gq hq2 kf2 st2 nd2 kF2⟩
end
end Wm
end
section
set_option Elab.async false
set_option linter.all false
set_option maxRecDepth 100000
set_option maxHeartbeats 4000000
/-! all_times, web: walked. -/
namespace Wm
open PySem PySem.Spec PyProof.Rows L2 WmM
set_option autoImplicit false
abbrev Z0 : Addr → Prop := fun _ => False
/-- v is the dict of what is reached from x, and when -/
def MomAt (D : Addr) (F : List Fc) (G : Gh) (H : Hp) (sps : List Sp3) (dry : Int) (x : Fc) (v : V) : Prop := ∃ q kvs k, v = .ref q ∧ q ≠ D ∧ G q = none ∧ H q = some (.dT kvs) ∧ KF kvs k ∧ StepsS sps dry (K1 x) k ∧ (kvs.map (·.1)).Nodup ∧ ∀ y ∈ kvs.map (·.1), y ∈ F
theorem MomAt.keep {D : Addr} {F : List Fc} {G : Gh} {H H' : Hp} {sps : List Sp3} {dry : Int} {x : Fc} {v : V} (k : Keep G H H') (h : MomAt D F G H sps dry x v) : MomAt D F G H' sps dry x v := let ⟨q, kvs, kk, h1, h2, h3, h4, h5⟩ := h; ⟨q, kvs, kk, h1, h2, h3, k _ _ h3 h4, h5⟩
def TimesAt (D : Addr) (F : List Fc) (G : Gh) (H : Hp) (sps : List Sp3) (dry : Int) : Prop := ∃ tks, H D = some (.dT tks) ∧ (∀ x ∈ tks.map (·.1), x ∈ F) ∧ (∀ x ∈ F, valV tks x ≠ none) ∧ ∀ x v, valV tks x = some v → MomAt D F G H sps dry x v
theorem TimesAt.keep {D : Addr} {F : List Fc} {G : Gh} {H H' : Hp} {sps : List Sp3} {dry : Int} (g : G D = none) (k : Keep G H H') (h : TimesAt D F G H sps dry) : TimesAt D F G H' sps dry := let ⟨tks, h1, h2, h3, h4⟩ := h; ⟨tks, k _ _ g h1, h2, h3, fun x v hv => (h4 x v hv).keep k⟩
def WebRel (S : Shp) (row : List Deed) (wet : Int) (e : Fc × List Fc) : Prop := ∃ ks : List Fc, ks.Nodup ∧ (∀ x ∈ ks, x ∈ facesOf S) ∧ e.2 = ks.mergeSort leF ∧ ∀ x, x ∈ ks ↔ Rch (rwOf S row) 0 wet e.1 x
def EntAt (H : Hp) (t : Addr) (e : Fc × List Fc) : Prop := ∃ b l, H t = some (.tup [.ref b, .ref l]) ∧ TupF H b e.1 ∧ FacesL H l e.2
def EntsAt (H : Hp) (l : Addr) (es : List (Fc × List Fc)) : Prop := ∃ ts, H l = some (.lst (ts.map V.ref)) ∧ Paired (EntAt H) ts es
theorem EntAt.kn {H H' : Hp} (k : Kn H H') {t : Addr} {e : Fc × List Fc} (h : EntAt H t e) : EntAt H' t e := let ⟨b, l, h1, h2, h3⟩ := h; ⟨b, l, k _ _ h1 rfl, k _ _ h2 rfl, h3.kn k⟩
theorem EntsAt.kn {H H' : Hp} (k : Kn H H') {l : Addr} {es : List (Fc × List Fc)} (h : EntsAt H l es) : EntsAt H' l es := let ⟨ts, h1, h2⟩ := h; ⟨ts, k _ _ h1 rfl, paired_imp (fun _ _ h => h.kn k) h2⟩
def sp_all_times (K : PySem.W.Frag) : Sp := fun vs H Q _ => ∃ (sh c : Addr) (S : Shp) (G : Gh) (sps : List Sp3) (tot : Int), vs = [.ref sh, .ref c] ∧ ShopAt K H sh S ∧ ShpOk S ∧ RInv (facesOf S) Z0 G H ∧ CourseAt K (facesOf S) G H c sps tot ∧
  ∀ H' D, Keep G H H' → RInv (facesOf S) Z0 G H' → H D = none → TimesAt D (facesOf S) G H' sps tot → Q (.ref D) H'
def sp_web (K : PySem.W.Frag) : Sp := fun vs H Q _ => ∃ (sh lr : Addr) (wet : Int) (S : Shp) (row : List Deed), vs = [.ref sh, .ref lr, .int wet] ∧ ShopAt K H sh S ∧ ShpOk S ∧ RowAt H lr row ∧ RowOk S row ∧ 0 ≤ wet ∧
  ∀ H' l es, Same H H' → H l = none → EntsAt H' l es → es.map (·.1) = facesOf S → (∀ e ∈ es, WebRel S row wet e) → Q (.ref l) H'
theorem lkF {ld ll : Addr} : List.lookup ("faces" : Str) ([("rollers", V.ref ld), ("lengths", V.ref ll)] : List (Str × V)) = none := by rw [look1 (by decide +kernel), look1 (by decide +kernel)]; rfl
theorem row_nn {S : Shp} {row : List Deed} (O : RowOk S row) : ∀ d ∈ row, 0 ≤ d.b := fun d hd => (O.ok d hd).nn
theorem web_rel {S : Shp} {row : List Deed} {wet : Int} {f : Fc} {kvs : List (Fc × V)} {k : Fc → Option Int} (O : RowOk S row) (kf : KF kvs k) (st : StepsS (spansFrom S 0 row) wet (K1 f) k) (nd : (kvs.map (·.1)).Nodup) (hF : ∀ y ∈ kvs.map (·.1), y ∈ facesOf S) : WebRel S row wet (f, (kvs.map (·.1)).mergeSort leF) := by
  refine ⟨kvs.map (·.1), nd, hF, rfl, fun x => ?_⟩
  have h1 := steps_keys (nn_of (S := S) (row_nn O)) (K1_bd f) (steps_of (row_nn O) st) x
  have h2 : x ∈ kvs.map (·.1) ↔ k x ≠ none := by
    have q := kf x
    constructor
    · intro hx
      obtain ⟨v, hv⟩ := valV_of_mem hx
      rw [q] at hv
      intro z
      rw [z] at hv
      cases hv
    · intro hx
      cases e : k x with
      | none => exact absurd e hx
      | some u =>
        rw [e] at q
        exact valV_mem q
  rw [h2, h1]
  constructor
  · rintro ⟨f', h3, h4⟩
    unfold K1 at h3
    by_cases e : f' = f
    · rw [← e]
      exact h4
    · rw [if_neg e] at h3
      exact absurd rfl h3
  · intro h
    exact ⟨f, (by unfold K1; rw [if_pos rfl]; exact (fun z => nomatch z)), h⟩
theorem RInv.but' {F : List Fc} {Z : Addr → Prop} {G : Gh} {H H' : Hp} {q : Addr} (g : G q = none) (R : RInv F Z G H) (k : ∀ b kvs, H b = some (.dT kvs) → H' b = some (.dT kvs)) : RInv F Z G H' := R.kd k
section
variable {P : Program} {w : World} {K : PySem.W.Frag} {mg : Str → Option Value} {base : Heap}
theorem ok_all_times (T : Tx K mg) : Dn P w K mg base 5 (He.ga K "all_times") ["shop", "course"] (sp_all_times K) := by
  refine dn_of T.F_all_times sc_all_times (fun _ _ _ _ _ _ us hl => match us, hl with | [_, _], _ => rfl) (fun vs H Q E h => ?_) (fun cdv A outer s H vs Q E hr h => ?_)
  · obtain ⟨_, _, _, _, _, _, rfl, _⟩ := h
    rfl
  · obtain ⟨sh, c, S, G, sps, tot, rfl, hS, O, RI, CA, k⟩ := h
    obtain ⟨ll, dxs, ld, as, hs1, _⟩ := id hS
    refine ⟨_, (pss_one (ps_ret (pe_dcT (own := [("face", 2)]) (g := (gName 2)) hr.units0 rfl sc_all_times.nd (pi_list (pm0 (pv 0) T.c_Shop T.t_Shop_faces (ok_Shop_faces T) hr)) (blkOk_by (own := [("face", 2)]) (N := ["shop", "course", "face"]) (sc := (defScope s_all_times)) (by decide +kernel)) (fun _ _ _ _ _ => (pg_name (i := 2) sc_all_times.nd rfl (.inl rfl))) (fun _ _ _ _ _ => (pv 2)) (fun _ _ _ _ _ => (pc (ok_first_moments T) hr rfl T.g_first_moments (pa_cons (pv 1) (pa_cons (pe_disp1 (hu_of hr) (pv 2) pe_int) (pa_cons (pe_fldK K (pv 1) rfl) pa_nil)))))))), ?_⟩
    refine ⟨_, rfl, sh, dxs, _, rfl, hs1, lkF, sh, S, rfl, hS, O, fun H1 lf s1 hlf ⟨fas, hfl, tfl⟩ => ⟨lf, rfl, ⟨_, SqL.of hfl⟩, fun D hD => ?_⟩⟩
    have lfa := Paired.length tfl
    have OF := facesOf_ok O
    have lF := OF.len
    have R1 := RI.same s1
    have kn : ∀ {H'}, Keep G H1 H' → Kn H1 H' := fun k => k.kn R1
    have gD : G D = none := R1.out hD
    refine dc_it walk_listF (fun i H' => Keep G H1 H' ∧ RInv (facesOf S) (fun b => b = D) G H' ∧ ∃ tks, H' D = some (.dT tks) ∧ tks.length ≤ i ∧ (∀ x ∈ tks.map (·.1), x ∈ facesOf S) ∧ (∀ x ∈ (facesOf S).take i, valV tks x ≠ none) ∧ ∀ x v, valV tks x = some v → MomAt D (facesOf S) G H' sps tot x v)
      ⟨Keep.same (Same.new hD), ((R1.addZ hD).imp fun b z => .inl z).same (Same.new hD), [], upd_same, Nat.le_refl _, fun x h => (nomatch h), fun x h => (by simp at h), fun x v h => (by rw [valV_nil] at h; cases h)⟩ (fun i H' _ z => SqL.of (kn z.1 _ _ hfl rfl)) ?_ ?_
    · rintro i x H2 H3 hi ⟨K2, R2, tks, hD2, lt2, tF2, tA2, tM2⟩ ⟨rfl, b, e2, rfl⟩
      obtain ⟨f, e3, hf0⟩ := paired_get tfl e2
      have hfF := List.mem_of_getElem? e3
      have hf : TupF H3 b f := (kn K2).tk _ _ hf0
      refine ⟨rfl, _, rfl, _, rfl, fun p hp => ⟨_, rfl, f, b, rfl, kept hf hp, upd_same, ?_⟩⟩
      rw [L2.upd_upd]
      have s3 : Same H3 (upd H3 p (.dT [(f, .int 0)])) := Same.new hp
      have hp3 : upd H3 p (.dT [(f, .int 0)]) p = some (.dT [(f, .int 0)]) := upd_same
      generalize upd H3 p (.dT [(f, .int 0)]) = H4 at s3 hp3 ⊢
      have C4 : CourseAt K (facesOf S) G H4 c sps tot := CA.keep RI ((Keep.same s1).trans (K2.trans (Keep.same s3)))
      obtain ⟨dxc, lc, cas, hc4, _⟩ := id C4
      refine ⟨_, rfl, c, _, dxc, _, _, rfl, hc4, T.c_Course, T.a_Course_total, c_to, c, p, tot, f, facesOf S, (fun b => b = D), G, sps, tot, rfl, fun b (z : b = D) => by rw [z, s3 _ _ hD2]; exact (fun y => nomatch y), R2.same s3, C4, hp3, hfF, OF, fun H5 q kvs kk K5 R5 hq gq hq5 kf5 st5 nd5 kF5 => ?_⟩
      have K35 : Keep G H3 H5 := (Keep.same s3).trans K5
      have hD5 := K35 _ _ gD hD2
      have nqD : q ≠ D := (ne_of_none (s3 _ _ hD2) hq).symm
      have hf5 : TupF H5 b f := Kn.tk (K35.kn R2) _ _ hf
      refine ⟨tks, f, b, rfl, hf5, hD5, small9 (by omega), ?_⟩
      have KD : Keep G H1 (upd H5 D (.dT (putK tks f (.ref q)))) := fun a o g e => by
        rw [upd_ne (ne_of_none e hD)]
        exact K35 _ _ g (K2 _ _ g e)
      have up : ∀ a o, a ≠ D → H5 a = some o → upd H5 D (.dT (putK tks f (.ref q))) a = some o := fun a o n e => by rw [upd_ne n]; exact e
      refine ⟨KD, ?_, putK tks f (.ref q), upd_same, by have := length_putK tks f (V.ref q); omega, keys_put tF2 hfF, fun x hx => ?_, fun x v hx => ?_⟩
      · exact R5.but rfl gD up
      · rw [valV_put]
        by_cases e : x = f
        · rw [if_pos e]
          exact fun z => nomatch z
        · rw [if_neg e]
          rw [List.take_add_one, e3] at hx
          rcases List.mem_append.mp hx with hx | hx
          · exact tA2 x hx
          · exact absurd (List.mem_singleton.mp hx) e
      · rw [valV_put] at hx
        by_cases e : x = f
        · rw [if_pos e] at hx
          cases hx
          rw [e]
          exact ⟨q, kvs, kk, rfl, nqD, gq, up _ _ nqD hq5, kf5, st5, nd5, kF5⟩
        · rw [if_neg e] at hx
          obtain ⟨q1, kv1, k1, h1, h2, h3, h4, h5⟩ := (tM2 x v hx).keep K35
          exact ⟨q1, kv1, k1, h1, h2, h3, up _ _ h2 h4, h5⟩
    · rintro H2 ⟨K2, R2, tks, hD2, lt2, tF2, tA2, tM2⟩
      rw [lfa, List.take_length] at tA2
      exact k H2 D ((Keep.same s1).trans K2) (R2.imp fun b z => z.elim) (s1.free hD) ⟨tks, hD2, tF2, tA2, tM2⟩
def EntD (D : Addr) (H : Hp) (t : Addr) (e : Fc × List Fc) : Prop := ∃ b l, l ≠ D ∧ H t = some (.tup [.ref b, .ref l]) ∧ TupF H b e.1 ∧ FacesL H l e.2
theorem faces_data {F fs : List Fc} (OF : FsOk F) (h : ∀ f ∈ fs, f ∈ F) : PySem.W.AllAlike (fs.map faceD) ∧ PySem.W.Sortable (fs.map faceD) ∧ ∀ b ∈ fs, (faceD b).depth ≤ 8 := by
  refine ⟨fun x hx y hy => ?_, .inl fun x hx => ?_, fun x hx => Nat.le_trans (face_depth (OF.shap _ (h _ hx))) (by decide)⟩
  · obtain ⟨x', hx', rfl⟩ := List.mem_map.mp hx
    obtain ⟨y', hy', rfl⟩ := List.mem_map.mp hy
    exact face_alike (OF.shap _ (h _ hx')) (OF.shap _ (h _ hy'))
  · obtain ⟨x', hx', rfl⟩ := List.mem_map.mp hx
    obtain ⟨_, _, _, _, rfl⟩ := OF.shap _ (h _ hx')
    exact ⟨_, _, rfl⟩
theorem ok_web (T : Tx K mg) : Dn P w K mg base 11 (He.ga K "web") ["shop", "row", "wet"] (sp_web K) := by
  refine dn_of T.F_web sc_web (fun _ _ _ _ _ _ us hl => match us, hl with | [_, _, _], _ => rfl) (fun vs H Q E h => ?_) (fun cdv A outer s H vs Q E hr h => ?_)
  · obtain ⟨_, _, _, _, _, rfl, _⟩ := h
    rfl
  · obtain ⟨sh, lr, wet, S, row, rfl, hS, O, hR, OR, h0, k⟩ := h
    have OF := facesOf_ok O
    have lF := OF.len
    refine ⟨_, (pss_cons (ps_set (i := 3) sc_web.nd rfl (.inr rfl) (pk T.m_Course (ok_Course_init T) hr rfl T.g_Course (pa_cons (pv 0) (pa_cons (pv 1) pa_nil)))) (pss_cons (ps_expr (pc (ok_want_wet T) hr rfl T.g_want_wet (pa_cons (pv 2) pa_nil))) (pss_one (ps_ret (pe_lc (own := [("face", 4)]) (g := (gName 4)) rfl sc_web.nd (pi_list (pm0 (pv 0) T.c_Shop T.t_Shop_faces (ok_Shop_faces T) hr)) (blkOk_by (own := [("face", 4)]) (N := ["shop", "row", "wet", "course", "face"]) (sc := (defScope s_web)) (by decide +kernel)) (fun _ _ _ _ _ => (pg_name (i := 4) sc_web.nd rfl (.inl rfl))) (fun _ _ _ _ _ => pts_nil) (fun _ _ _ _ _ => (pe_tup (pa_cons (pv 4) (pa_cons (pe_callB (cr_srtD (enc := faceD) rfl hr.units) (by rfl) T.n_sorted (by decide +kernel) (pa_cons (pc (ok_first_moments T) hr rfl T.g_first_moments (pa_cons (pv 3) (pa_cons (pe_disp1 (hu_of hr) (pv 4) pe_int) (pa_cons (pv 2) pa_nil)))) pa_nil)) pa_nil))))))))), ?_⟩
    refine ⟨_, rfl, _, rfl, fun c dx hc hdx nex => ?_⟩
    have sx : Same H (upd (upd H dx (.own c)) c (.ins (He.ga K "Course") dx [])) := (Same.new hdx).over hc
    refine ⟨c, dx, sh, lr, S, row, rfl, upd_same, hS.kn (Kn.same sx), O, hR.kn (Kn.same sx), OR, fun H2 G np g0 RI CA => ⟨rfl, ?_⟩⟩
    have s2 : Same H H2 := fun b o e => np b o (ne_of_none e hc) (sx _ _ e)
    have gH : ∀ b o, H b = some o → G b = none := fun b o e => by
      cases q : G b with
      | none => rfl
      | some adj =>
        have := g0 b adj q
        rw [sx _ _ e] at this
        cases this
    refine ⟨_, rfl, wet, rfl, h0, ?_⟩
    obtain ⟨ll, dxs, ld, as, hs1, _⟩ := id hS
    refine ⟨_, rfl, sh, dxs, _, rfl, s2 _ _ hs1, lkF, sh, S, rfl, hS.kn (Kn.same s2), O, fun H3 lf s3 hlf ⟨fas, hfl, tfl⟩ => ⟨lf, rfl, ⟨_, SqL.of hfl⟩, fun D hD => ?_⟩⟩
    have lfa := Paired.length tfl
    have R3 := RI.same s3
    have kn : ∀ {H'}, Keep G H3 H' → Kn H3 H' := fun k => k.kn R3
    have gD : G D = none := R3.out hD
    refine lc_it walk_listF (fun i H' => Keep G H3 H' ∧ RInv (facesOf S) Z0 G H' ∧ ∃ ts es, H' D = some (.lst (ts.map V.ref)) ∧ Paired (EntD D H') ts es ∧ es.map (·.1) = (facesOf S).take i ∧ ts.length = i ∧ ∀ e ∈ es, WebRel S row wet e)
      ⟨Keep.same (Same.new hD), R3.same (Same.new hD), [], [], upd_same, .nil, rfl, rfl, fun e h => (nomatch h)⟩ (fun i H' _ z => SqL.of (kn z.1 _ _ hfl rfl)) ?_ ?_
    · rintro i x H4 H5 hi ⟨K4, R4, ts, es, hD4, pe4, em4, lt4, we4⟩ ⟨rfl, b, e2, rfl⟩
      obtain ⟨f, e3, hf0⟩ := paired_get tfl e2
      have hfF := List.mem_of_getElem? e3
      have hf : TupF H5 b f := (kn K4).tk _ _ hf0
      refine ⟨rfl, _, rfl, _, rfl, fun p hp => ⟨_, rfl, f, b, rfl, kept hf hp, upd_same, ?_⟩⟩
      rw [L2.upd_upd]
      have s6 : Same H5 (upd H5 p (.dT [(f, .int 0)])) := Same.new hp
      have hp6 : upd H5 p (.dT [(f, .int 0)]) p = some (.dT [(f, .int 0)]) := upd_same
      generalize upd H5 p (.dT [(f, .int 0)]) = H6 at s6 hp6 ⊢
      have C6 : CourseAt K (facesOf S) G H6 c (spansFrom S 0 row) (totD row) := CA.keep RI ((Keep.same s3).trans (K4.trans (Keep.same s6)))
      refine ⟨_, rfl, c, p, wet, f, facesOf S, Z0, G, _, _, rfl, fun b (z : False) => z.elim, R4.same s6, C6, hp6, hfF, OF, fun H7 q kvs kk K7 R7 hq gq hq7 kf7 st7 nd7 kF7 => ?_⟩
      have K57 : Keep G H5 H7 := (Keep.same s6).trans K7
      have hD7 := K57 _ _ gD hD4
      obtain ⟨d1, d2, d3⟩ := faces_data OF kF7
      refine ⟨q, kvs, rfl, .of hq7, fun k _ => rfl, d1, d2, d3, fun ys r hys hr => ⟨by show 2 ≤ sizeLine; decide, fun t ht => ?_⟩⟩
      obtain ⟨rs, rfl, prs⟩ := paired_refs hys
      have s8 : Same H7 (upd (upd H7 r (.lst (rs.map V.ref))) t (.tup [.ref b, .ref r])) := (Same.new hr).trans (Same.new ht)
      have hr8 : upd (upd H7 r (.lst (rs.map V.ref))) t (.tup [.ref b, .ref r]) r = some (.lst (rs.map V.ref)) := kept upd_same ht
      have ht8 : upd (upd H7 r (.lst (rs.map V.ref))) t (.tup [.ref b, .ref r]) t = some (.tup [.ref b, .ref r]) := upd_same
      generalize upd (upd H7 r (.lst (rs.map V.ref))) t (.tup [.ref b, .ref r]) = H8 at s8 hr8 ht8 ⊢
      have hD8 := s8 _ _ hD7
      have nrD : r ≠ D := (ne_of_none hD7 hr).symm
      have K58 : Keep G H5 H8 := K57.trans (Keep.same s8)
      have tk9 : TK H8 (upd H8 D (.lst (ts.map V.ref ++ [.ref t]))) := TK.lst hD8
      refine ⟨_, hD8, by rw [List.length_map, lt4]; exact small9 (by omega), fun a o g e => ?_, (R7.same s8).but' gD ?_, ts ++ [t], es ++ [(f, (kvs.map (·.1)).mergeSort leF)], by rw [upd_same, List.map_append]; rfl, ?_, ?_, by rw [List.length_append, lt4]; rfl, fun e he => ?_⟩
      · rw [upd_ne (ne_of_none e hD)]
        exact K58 _ _ g (K4 _ _ g e)
      · intro b kv e
        rw [upd_ne (ne_of e hD8 fun z => nomatch z)]
        exact e
      · refine paired_app (paired_imp (fun t' e ⟨b', l', n', h1, h2, fs, h3, h4⟩ => ?_) pe4) (.cons ⟨b, r, nrD, tk9 _ _ ht8, tk9 _ _ (Kn.tk (K58.kn R4) _ _ hf), rs, by rw [upd_ne nrD]; exact hr8, TupsAt.tk tk9 (TupsAt.tk (TK.same s8) prs)⟩ .nil)
        have kn58 := K58.kn R4
        exact ⟨b', l', n', tk9 _ _ (kn58 _ _ h1 rfl), tk9 _ _ (kn58.tk _ _ h2), fs, by rw [upd_ne n']; exact kn58 _ _ h3 rfl, TupsAt.tk tk9 (TupsAt.tk kn58.tk h4)⟩
      · rw [List.map_append, em4, List.take_add_one, e3]
        rfl
      · rcases List.mem_append.mp he with he | he
        · exact we4 e he
        · rw [List.mem_singleton.mp he]
          exact web_rel OR kf7 st7 nd7 kF7
    · rintro H4 ⟨K4, R4, ts, es, hD4, pe4, em4, lt4, we4⟩
      rw [lfa, List.take_length] at em4
      refine k H4 D es (fun b o e => K4 _ _ (gH b o e) (s3 _ _ (s2 _ _ e))) (s2.free (s3.free hD)) ⟨ts, hD4, paired_imp (fun t e ⟨b', l', _, h⟩ => ⟨b', l', h⟩) pe4⟩ em4 we4
end
end Wm
end
section
set_option Elab.async false
set_option linter.all false
set_option maxRecDepth 100000
set_option maxHeartbeats 4000000
/-! parted, of rows that are alike: walked. -/
namespace Wm
open PySem PySem.Spec PyProof.Rows L2 WmM
set_option autoImplicit false
theorem pe_nevE {X : Cx} {e : Expr} : PE X e (fun _ _ _ => False) := ⟨fun _ _ _ _ _ _ h => h.elim⟩
def SameRows (S : Shp) (r1 r2 : List Deed) : Prop := ∀ f R R', Steps (rwOf S r1) 0 (totD r1) (K1 f) R → Steps (rwOf S r2) 0 (totD r2) (K1 f) R' → R = R'
def sp_parted (K : PySem.W.Frag) : Sp := fun vs H Q _ => ∃ (sh l1 l2 : Addr) (S : Shp) (r1 r2 : List Deed), vs = [.ref sh, .ref l1, .ref l2] ∧ ShopAt K H sh S ∧ ShpOk S ∧ RowAt H l1 r1 ∧ RowOk S r1 ∧ RowAt H l2 r2 ∧ RowOk S r2 ∧ SameRows S r1 r2 ∧ ∀ H', Same H H' → Q .non H'
section
variable {P : Program} {w : World} {K : PySem.W.Frag} {mg : Str → Option Value} {base : Heap}
theorem ok_parted (T : Tx K mg) : Dn P w K mg base 11 (He.ga K "parted") ["shop", "one", "other"] (sp_parted K) := by
  refine dn_of T.F_parted sc_parted (fun _ _ _ _ _ _ us hl => match us, hl with | [_, _, _], _ => rfl) (fun vs H Q E h => ?_) (fun cdv A outer s H vs Q E hr h => ?_)
  · obtain ⟨_, _, _, _, _, _, rfl, _⟩ := h
    rfl
  · obtain ⟨sh, l1, l2, S, r1, r2, rfl, hS, O, hR1, O1, hR2, O2, same, k⟩ := h
    have OF := facesOf_ok O
    have lF := OF.len
    refine ⟨_, (pss_cons (ps_expr (pc (ok_want_row T) hr rfl T.g_want_row (pa_cons (pv 0) (pa_cons (pv 1) pa_nil)))) (pss_cons (ps_expr (pc (ok_want_row T) hr rfl T.g_want_row (pa_cons (pv 0) (pa_cons (pv 2) pa_nil)))) (pss_cons (ps_set (i := 3) sc_parted.nd rfl (.inl rfl) (pc (ok_all_times T) hr rfl T.g_all_times (pa_cons (pv 0) (pa_cons (pk T.m_Course (ok_Course_init T) hr rfl T.g_Course (pa_cons (pv 0) (pa_cons (pv 1) pa_nil))) pa_nil)))) (pss_cons (ps_set (i := 4) sc_parted.nd rfl (.inl rfl) (pc (ok_all_times T) hr rfl T.g_all_times (pa_cons (pv 0) (pa_cons (pk T.m_Course (ok_Course_init T) hr rfl T.g_Course (pa_cons (pv 0) (pa_cons (pv 2) pa_nil))) pa_nil)))) (pss_cons (ps_set (i := 5) sc_parted.nd rfl (.inl rfl) (pe_lst pa_nil)) (pss_cons (ps_lock (ps_for PassesOwn.never rfl (pi_keys (pv 3)) (pg_name (i := 6) sc_parted.nd rfl (.inr rfl)) (pss_one (ps_for PassesOwn.never rfl (pi_list (pm0 (pv 0) T.c_Shop T.t_Shop_faces (ok_Shop_faces T) hr)) (pg_name (i := 7) sc_parted.nd rfl (.inr rfl)) (pss_cons (ps_setLc (i := 8) (own := [("known", 9)]) (g := (gName 9)) rfl sc_parted.nd rfl rfl (sw_true rfl rfl rfl (by decide +kernel)) (pi_tup (pe_tup (pa_cons (pv 3) (pa_cons (pv 4) pa_nil)))) (blkOk_by (own := [("known", 9)]) (N := ["shop", "one", "other", "mine", "more", "found", "face", "shown", "both", "known"]) (sc := (defScope s_parted)) (by decide +kernel)) (fun _ _ _ _ _ => (pg_name (i := 9) sc_parted.nd rfl (.inl rfl))) (fun _ _ _ _ _ => (pts_one (pt_cmp (pc_din (hu_of hr) (pv 7) (pe_dget (hu_of hr) (pv 9) (pv 6) (fun _ _ => rfl)))))) (fun _ _ _ _ _ => (pe_dget (hu_of hr) (pe_dget (hu_of hr) (pv 9) (pv 6) (fun _ _ => rfl)) (pv 7) (fun _ _ => rfl)))) (pss_one (ps_if (PW.pt (pw_and (pt_cmpR (op_neD hr.units) (pv 8) (pe_lst pa_nil) (nomark _)) (pw_and1 (PW.pt (pw_or (pt_cmpR op_eq (pe_callB call_len_seq (by rfl) T.n_len PySem.boot_len (pa_cons (pv 8) pa_nil)) pe_int (nomark _)) (pw_or1 (pt_cmpR op_ne (pe_ix ix_list (pv 8) pe_int (fun _ _ => rfl)) (pe_ix ix_list (pv 8) pe_int (fun _ _ => rfl)) (nomark _)))))))) (pss_one ps_never) pss_nil))))))) (pss_one (ps_ret (pe_ifExp (pt_cmpR (op_eqD hr.units) (pv 5) (pe_lst pa_nil) (nomark _)) pe_non pe_nevE))))))))), ?_⟩
    refine ⟨_, rfl, _, rfl, sh, l1, S, r1, rfl, hS, hR1, O1, fun H1 s1 => ?_⟩
    refine ⟨_, rfl, _, rfl, sh, l2, S, r2, rfl, hS.kn (Kn.same s1), hR2.kn (Kn.same s1), O2, fun H2 s2 => ?_⟩
    have sA := s1.trans s2
    refine ⟨_, rfl, _, rfl, _, rfl, fun c dx hc hdx nex => ?_⟩
    have sx : Same H2 (upd (upd H2 dx (.own c)) c (.ins (He.ga K "Course") dx [])) := (Same.new hdx).over hc
    refine ⟨c, dx, sh, l1, S, r1, rfl, upd_same, hS.kn (Kn.same (sA.trans sx)), O, hR1.kn (Kn.same (sA.trans sx)), O1, fun H3 G1 np g0 R3 C3 => ⟨rfl, ?_⟩⟩
    have s3 : Same H2 H3 := fun b o e => np b o (ne_of_none e hc) (sx _ _ e)
    have g1 : ∀ b o, H2 b = some o → G1 b = none := fun b o e => by
      cases q : G1 b with
      | none => rfl
      | some adj =>
        have := g0 b adj q
        rw [sx _ _ e] at this
        cases this
    refine ⟨sh, c, S, G1, _, _, rfl, hS.kn (Kn.same (sA.trans s3)), O, R3, C3, fun H4 D1 K4 R4 hD1 TA1 => ?_⟩
    have s4 : Same H2 H4 := fun b o e => K4 _ _ (g1 b o e) (s3 _ _ e)
    have gD1 : G1 D1 = none := R3.out hD1
    have sB := sA.trans s4
    refine ⟨_, rfl, _, rfl, _, rfl, fun c2 dx2 hc2 hdx2 nex2 => ?_⟩
    have sx2 : Same H4 (upd (upd H4 dx2 (.own c2)) c2 (.ins (He.ga K "Course") dx2 [])) := (Same.new hdx2).over hc2
    refine ⟨c2, dx2, sh, l2, S, r2, rfl, upd_same, hS.kn (Kn.same (sB.trans sx2)), O, hR2.kn (Kn.same (sB.trans sx2)), O2, fun H5 G2 np2 g02 R5 C5 => ⟨rfl, ?_⟩⟩
    have s5 : Same H4 H5 := fun b o e => np2 b o (ne_of_none e hc2) (sx2 _ _ e)
    have g2 : ∀ b o, H4 b = some o → G2 b = none := fun b o e => by
      cases q : G2 b with
      | none => rfl
      | some adj =>
        have := g02 b adj q
        rw [sx2 _ _ e] at this
        cases this
    refine ⟨sh, c2, S, G2, _, _, rfl, hS.kn (Kn.same (sB.trans s5)), O, R5, C5, fun H6 D2 K6 R6 hD2 TA2 => ?_⟩
    have s6 : Same H4 H6 := fun b o e => K6 _ _ (g2 b o e) (s5 _ _ e)
    have sC := sB.trans s6
    refine ⟨Nat.zero_le _, fun l0 hl0 => ?_⟩
    have s7 : Same H6 (upd H6 l0 (.lst [])) := Same.new hl0
    have hl7 : upd H6 l0 (.lst []) l0 = some (.lst []) := upd_same
    have sD := sC.trans s7
    obtain ⟨t1, h1D, h1F, h1A, h1M⟩ := TA1.keep gD1 (Keep.same (s6.trans s7))
    have gD2 : G2 D2 = none := R5.out hD2
    obtain ⟨t2, h2D, h2F, h2A, h2M⟩ := TA2.keep gD2 (Keep.same s7)
    generalize upd H6 l0 (.lst []) = H7 at s7 hl7 sD h1D h1M h2D h2M ⊢
    have ne12 : D2 ≠ D1 := by
      obtain ⟨_, h, _⟩ := TA1
      exact (ne_of_none (s5 _ _ h) hD2).symm
    -- what both tell of a face
    have both : ∀ f, f ∈ facesOf S → ∃ q1 v1 q2 v2 kk, valV t1 f = some (.ref q1) ∧ q1 ≠ D1 ∧ H7 q1 = some (.dT v1) ∧ KF v1 kk ∧ valV t2 f = some (.ref q2) ∧ q2 ≠ D1 ∧ H7 q2 = some (.dT v2) ∧ KF v2 kk := fun f hf => by
      cases e1 : valV t1 f with
      | none => exact absurd e1 (h1A f hf)
      | some a1 =>
        cases e2 : valV t2 f with
        | none => exact absurd e2 (h2A f hf)
        | some a2 =>
          obtain ⟨q1, v1, k1, rfl, n1, _, e3, kf1, st1, _, _⟩ := h1M f a1 e1
          obtain ⟨q2, v2, k2, rfl, n2, _, e4, kf2, st2, _, _⟩ := h2M f a2 e2
          have e5 := same f k1 k2 (steps_of (row_nn O1) st1) (steps_of (row_nn O2) st2)
          subst e5
          have n3 : q2 ≠ D1 := fun z => by
            rw [z, h1D] at e4
            have e4 := Option.some.inj e4
            injection e4 with e4
            subst e4
            have := kf2 f
            rw [e1] at this
            cases q : k1 f with
            | none => rw [q] at this; cases this
            | some u => rw [q] at this; cases this
          exact ⟨q1, v1, q2, v2, k1, rfl, n1, e3, kf1, rfl, n3, e4, kf2⟩
    refine ⟨D1, _, h1D, trivial, fun od => ?_⟩
    have hfr : upd H7 D1 (.frz od (.dT t1)) D1 = some (.frz od (.dT t1)) := upd_same
    have up : ∀ b o, b ≠ D1 → H7 b = some o → upd H7 D1 (.frz od (.dT t1)) b = some o := fun b o n e => by rw [upd_ne n]; exact e
    have nl0 : l0 ≠ D1 := ne_of hl7 h1D fun z => nomatch z
    have hl8 := up _ _ nl0 hl7
    have hS8 : ShopAt K (upd H7 D1 (.frz od (.dT t1))) sh S := (hS.kn (Kn.same sD)).kn (Kn.dT h1D)
    have both8 : ∀ f, f ∈ facesOf S → ∃ q1 v1 q2 v2 kk, valV t1 f = some (.ref q1) ∧ upd H7 D1 (.frz od (.dT t1)) q1 = some (.dT v1) ∧ KF v1 kk ∧ valV t2 f = some (.ref q2) ∧ upd H7 D1 (.frz od (.dT t1)) q2 = some (.dT v2) ∧ KF v2 kk := fun f hf => by
      obtain ⟨q1, v1, q2, v2, kk, a1, a2, a3, a4, a5, a6, a7, a8⟩ := both f hf
      exact ⟨q1, v1, q2, v2, kk, a1, up _ _ a2 a3, a4, a5, up _ _ a6 a7, a8⟩
    have h2D8 := up _ _ ne12 h2D
    have back : ∀ H', Same (upd H7 D1 (.frz od (.dT t1))) H' → Same H7 (upd H' D1 (.dT t1)) := fun H' s b o e => by
      by_cases z : b = D1
      · rw [z] at e ⊢
        rw [h1D] at e
        rw [upd_same]
        exact e
      · rw [upd_ne z]
        exact s _ _ (up _ _ z e)
    generalize upd H7 D1 (.frz od (.dT t1)) = H8 at hfr hl8 hS8 both8 h2D8 back ⊢
    refine ⟨_, rfl, D1, od, rfl, .inr ⟨t1, hfr, for_it walk_keysT (fun i σ H' => (∃ x6 x7 x8 x9, σ = [some (.ref sh), some (.ref l1), some (.ref l2), some (.ref D1), some (.ref D2), some (.ref l0), x6, x7, x8, x9]) ∧ Same H8 H')
      ⟨⟨_, _, _, _, rfl⟩, Same.refl _⟩ (fun i σ H' _ z => z.2 _ _ hfr) ?_ ?_⟩⟩
    · rintro i x σ H9 H9' hi ⟨⟨x6, x7, x8, x9, rfl⟩, s9⟩ ⟨rfl, f, v, b, ef, rfl, hb⟩
      have hfF : f ∈ facesOf S := h1F f (List.mem_map.mpr ⟨_, List.mem_of_getElem? ef, rfl⟩)
      obtain ⟨q1, v1, q2, v2, kk, e1, e2, kf1, e3, e4, kf2⟩ := both8 f hfF
      obtain ⟨ll, dxs, ld, as, hs1, _⟩ := hS8.kn (Kn.same s9)
      refine ⟨_, rfl, sh, dxs, _, rfl, hs1, lkF, sh, S, rfl, hS8.kn (Kn.same s9), O, fun H10 lf s10 hlf ⟨fas, hfl, tfl⟩ => ⟨lf, rfl, ⟨_, SqL.of hfl⟩, for_it walk_listF (fun j σ H' => (∃ x7 x8 x9, σ = [some (.ref sh), some (.ref l1), some (.ref l2), some (.ref D1), some (.ref D2), some (.ref l0), some (.ref b), x7, x8, x9]) ∧ Same H10 H')
        ⟨⟨_, _, _, rfl⟩, Same.refl _⟩ (fun j σ H' _ z => SqL.of (z.2 _ _ hfl)) ?_ ?_⟩⟩
      · rintro j x σ H11 H12 hj ⟨⟨x7, x8, x9, rfl⟩, s11⟩ ⟨rfl, b2, eb2, rfl⟩
        obtain ⟨g, eg, hg⟩ := paired_get tfl eb2
        have s8 : Same H8 H12 := s9.trans (s10.trans s11)
        have hb12 : TupF H12 b f := s11 _ _ (s10 _ _ hb)
        have hg12 : TupF H12 b2 g := s11 _ _ hg
        -- both = [known[face][shown] for known in (mine, more) if shown in known[face]]
        refine ⟨_, rfl, _, rfl, by show 2 ≤ sizeLine; decide, fun tp htp => ⟨tp, rfl, ⟨_, SqT.of upd_same⟩, fun E hE => ?_⟩⟩
        have stp : Same H12 (upd H12 tp (.tup [.ref D1, .ref D2])) := Same.new htp
        have htp2 : upd H12 tp (.tup [.ref D1, .ref D2]) tp = some (.tup [.ref D1, .ref D2]) := upd_same
        generalize upd H12 tp (.tup [.ref D1, .ref D2]) = H13 at stp htp2 hE ⊢
        refine lc_it walk_tup (fun m H' => Same H13 H' ∧ H' E = some (.lst (match kk g with | none => [] | some u => List.replicate m (V.int u)))) ⟨Same.new hE, by rw [upd_same]; cases kk g <;> rfl⟩ (fun m H' _ z => SqT.of (z.1 _ _ htp2)) ?_ ?_
        · rintro m x H14 H15 hm ⟨s14, hE14⟩ ⟨rfl, em⟩
          have s15 : Same H8 H15 := s8.trans (stp.trans s14)
          have hb15 : H15 b = some (.tup (f.map kV)) := s14 _ _ (stp _ _ hb12)
          have hg15 : H15 b2 = some (.tup (g.map kV)) := s14 _ _ (stp _ _ hg12)
          have one : ∃ D q vv, x = .ref D ∧ DGet H15 D (.ref b) (some (.ref q)) ∧ H15 q = some (.dT vv) ∧ KF vv kk := by
            match m, hm, em with
            | 0, _, em =>
              cases em
              refine ⟨D1, q1, v1, rfl, ?_, s15 _ _ e2, kf1⟩
              rw [← e1]
              exact .inr ⟨t1, f, b, .inr ⟨od, s15 _ _ hfr⟩, rfl, hb15, rfl⟩
            | 1, _, em =>
              cases em
              refine ⟨D2, q2, v2, rfl, ?_, s15 _ _ e4, kf2⟩
              rw [← e3]
              exact .inr ⟨t2, f, b, .inl (s15 _ _ h2D8), rfl, hb15, rfl⟩
          obtain ⟨D, q, vv, rfl, dg, hq, kf⟩ := one
          refine ⟨rfl, _, rfl, _, rfl, _, rfl, D, _, rfl, dg, q, _, rfl, DGet.t hq hg15, _, rfl, ?_⟩
          cases eu : kk g with
          | none =>
            have ev : valV vv g = none := by rw [kf g, eu]; rfl
            rw [ev]
            refine iteF ⟨s14, ?_⟩
            rw [eu] at hE14
            exact hE14
          | some u =>
            have ev : valV vv g = some (.int u) := by rw [kf g, eu]; rfl
            rw [eu] at hE14
            rw [ev]
            refine iteT ⟨_, rfl, _, rfl, D, _, rfl, dg, _, rfl, q, .int u, rfl, by rw [← ev]; exact DGet.t hq hg15, _, hE14, ?_, s14.over hE, ?_⟩
            · rw [List.length_replicate]
              exact small9 (by simp at hm; omega)
            · rw [upd_same]
              have : List.replicate (m + 1) (V.int u) = List.replicate m (V.int u) ++ [V.int u] := by rw [List.replicate_succ']
              exact congrArg (fun z => some (HO.lst z)) this.symm
        · rintro H14 ⟨s14, hE14⟩
          have s16 : Same H10 H14 := s11.trans (stp.trans s14)
          cases eu : kk g with
          | none =>
            rw [eu] at hE14
            have hE14 : H14 E = some (.lst []) := hE14
            refine ⟨_, rfl, Nat.zero_le _, fun z hz => ⟨_, _, .lst (SqL.of (kept hE14 hz)) .nil, .lst (SqL.of upd_same) .nil, rfl, rfl, false, rfl, iteF (iteF ⟨⟨_, _, _, rfl⟩, s16.trans (Same.new hz)⟩)⟩⟩
          | some u =>
            rw [eu] at hE14
            have hE14 : H14 E = some (.lst [V.int u, V.int u]) := hE14
            refine ⟨_, rfl, Nat.zero_le _, fun z hz => ⟨_, _, .lst (SqL.of (kept hE14 hz)) (.cons (.int u) (.cons (.int u) .nil)), .lst (SqL.of upd_same) .nil, rfl, rfl, true, rfl, iteT ?_⟩⟩
            have hE15 := kept (o := .lst []) hE14 hz
            refine ⟨_, rfl, E, _, rfl, .inl (SqL.of hE15), rfl, false, rfl, iteF ⟨_, rfl, E, _, 0, _, rfl, rfl, SqL.of hE15, rfl, _, rfl, E, _, 1, _, rfl, rfl, SqL.of hE15, rfl, rfl, false, ?_, iteF ⟨⟨_, _, _, rfl⟩, s16.trans (Same.new hz)⟩⟩⟩
            rw [decide_eq_true rfl]
            rfl
      · rintro σ H11 ⟨⟨x7, x8, x9, rfl⟩, s11⟩
        exact ⟨⟨_, _, _, _, rfl⟩, s9.trans (s10.trans s11)⟩
    · rintro σ H9 ⟨⟨x6, x7, x8, x9, rfl⟩, s9⟩
      refine ⟨s9 _ _ hfr, ?_⟩
      have s10 := back H9 s9
      have hl10 := s10 _ _ hl7
      generalize upd H9 D1 (.dT t1) = H10 at s10 hl10 ⊢
      refine ⟨_, rfl, Nat.zero_le _, fun z hz => ⟨_, _, .lst (SqL.of (kept hl10 hz)) .nil, .lst (SqL.of upd_same) .nil, rfl, rfl, true, rfl, iteT (k _ (sD.trans (s10.trans (Same.new hz))))⟩⟩
end
end Wm
end
section
set_option Elab.async false
set_option linter.all false
set_option maxRecDepth 100000
set_option maxHeartbeats 4000000
/-! The law's own drawing of numbers: walked. -/
namespace Wm
open PySem PySem.Spec PyProof.Rows L2 WmM
set_option autoImplicit false
/-- the source of numbers at p: at most n draws -/
def SrcAt (H : Hp) (p : Addr) (n : Nat) : Prop := ∃ a b c : Int, H p = some (.lst [.int a, .int b, .int c]) ∧ 0 ≤ a ∧ 0 ≤ b ∧ b < 2 ^ 31 ∧ 0 ≤ c ∧ c ≤ n
theorem SrcAt.mono {H : Hp} {p : Addr} {n m : Nat} (h : SrcAt H p n) (l : n ≤ m) : SrcAt H p m := let ⟨a, b, c, h1, h2, h3, h4, h5, h6⟩ := h; ⟨a, b, c, h1, h2, h3, h4, h5, by omega⟩
theorem SrcAt.same {H H' : Hp} {p : Addr} {n : Nat} (s : Same H H') (h : SrcAt H p n) : SrcAt H' p n := let ⟨a, b, c, h1, h2⟩ := h; ⟨a, b, c, s _ _ h1, h2⟩
theorem NP.trans {p : Addr} {H H1 H2 : Hp} (a : NP p H H1) (b : NP p H1 H2) : NP p H H2 := fun x o n e => b x o n (a x o n e)
theorem NP.of {p : Addr} {H H' : Hp} (s : Same H H') : NP p H H' := fun x o _ e => s x o e
theorem NP.old {p : Addr} {H H' : Hp} {b : Addr} (k : NP p H H') (hp : H' p ≠ none) (h : H' b = none) : H b = none := by
  cases q : H b with
  | none => rfl
  | some o =>
    have n : b ≠ p := fun z => hp (by rw [← z]; exact h)
    rw [k b o n q] at h
    cases h
theorem SrcAt.ne {H : Hp} {p : Addr} {n : Nat} (h : SrcAt H p n) : H p ≠ none := let ⟨_, _, _, h1, _⟩ := h; fun z => by rw [h1] at z; cases z
def sp_law_source_of : Sp := fun vs H Q _ => ∃ c : Int, vs = [.int c] ∧ ∀ H' p, Same H H' → H p = none → SrcAt H' p 0 → Q (.ref p) H'
def sp_law_next : Sp := fun vs H Q _ => ∃ (p : Addr) (n : Nat) (m : Int), vs = [.ref p, .int m] ∧ SrcAt H p n ∧ n ≤ 100000 ∧ 1 ≤ m ∧ m < 2 ^ 80 ∧ ∀ H' r, NP p H H' → SrcAt H' p (n + 1) → 0 ≤ r → r < m → Q (.int r) H'
def sp_law_one (K : PySem.W.Frag) : Sp := fun vs H Q _ => ∃ (p a : Addr) (n : Nat) (xs : List V), vs = [.ref p, .ref a] ∧ SrcAt H p n ∧ n ≤ 100000 ∧ H a = some (.lst xs) ∧ a ≠ p ∧ 1 ≤ xs.length ∧ xs.length ≤ 1000 ∧ ∀ H' x, NP p H H' → SrcAt H' p (n + 1) → x ∈ xs → Q x H'
def sp_law_cell_at (K : PySem.W.Frag) : Sp := fun vs H Q _ => ∃ (a : Addr) (ns : List Int) (k : Int), vs = [.ref a, .int k] ∧ SqL K H a (ns.map V.int) ∧ 0 ≤ k ∧ ∀ v : Int, Q (.int v) H
def sp_law_mixed (K : PySem.W.Frag) : Sp := fun vs H Q _ => ∃ (p a : Addr) (n : Nat) (ns : List Int), vs = [.ref p, .ref a] ∧ SrcAt H p n ∧ n + ns.length ≤ 100000 ∧ SqL K H a (ns.map V.int) ∧ ns.length ≤ 1000 ∧ ∀ (H' : Hp) (m : Addr) (ms : List Int), NP p H H' → H m = none → H' m = some (.lst (ms.map V.int)) → ms.Perm ns → SrcAt H' p (n + ns.length) → Q (.ref m) H'
theorem dp_ints {K : PySem.W.Frag} {H : Hp} : ∀ ns : List Int, DpAll K H (ns.map V.int) (ns.map PyData.int)
  | [] => .nil
  | n :: ns => .cons (.int n) (dp_ints ns)
theorem shaped_ints (ns : List Int) : SeqAt.shaped (.list (ns.map PyData.int)) = true := by
  have h1 : ∀ ns : List Int, PyData.canLayAll0 (ns.map PyData.int) = true := fun ns => by
    induction ns with
    | nil => rfl
    | cons n ns ih =>
      show (true && PyData.canLayAll0 (ns.map PyData.int)) = true
      rw [ih]
      rfl
  have h2 : ∀ ns : List Int, PyData.depthAll (ns.map PyData.int) ≤ 0 := fun ns => by
    induction ns with
    | nil => exact Nat.le_refl _
    | cons n ns ih => exact Nat.max_le.mpr ⟨Nat.le_refl _, ih⟩
  have h3 : (PyData.list (ns.map PyData.int)).canLay0 = true := h1 ns
  have h4 : (PyData.list (ns.map PyData.int)).depth ≤ 64 := by
    have := h2 ns
    show PyData.depthAll (ns.map PyData.int) + 1 ≤ 64
    omega
  unfold SeqAt.shaped
  rw [h3, decide_eq_true h4]
  rfl
theorem eqv_nilI (ns : List Int) : PyData.eqv (.list (ns.map PyData.int)) (.list []) = ns.isEmpty := by cases ns <;> rfl
theorem fmod_bd {a b : Int} (h : 0 < b) : 0 ≤ a.fmod b ∧ a.fmod b < b := by
  rw [Int.fmod_eq_emod_of_nonneg _ (by omega)]
  exact ⟨Int.emod_nonneg _ (by omega), Int.emod_lt_of_pos _ h⟩
section
variable {P : Program} {w : World} {K : PySem.W.Frag} {mg : Str → Option Value} {base : Heap}
theorem ok_law_source_of (T : Tx K mg) : Dn P w K mg base 1 (He.ga K "_law_source_of") ["_law_cell"] sp_law_source_of := by
  refine dn_of T.F_law_source_of sc_law_source_of (fun _ _ _ _ _ _ us hl => match us, hl with | [_], _ => rfl) (fun vs H Q E h => ?_) (fun cdv A outer s H vs Q E hr h => ?_)
  · obtain ⟨_, rfl, _⟩ := h
    rfl
  · obtain ⟨c, rfl, k⟩ := h
    refine ⟨_, (pss_one (ps_ret (pe_lst (pa_cons (pe_op op_mul (pv 0) (pe_callTy call_int1 (by rfl) T.n_int (by decide +kernel) (pa_cons (pe_cmpR op_ge (pv 0) (pe_op op_pow pe_int pe_int) (nomark _)) pa_nil))) (pa_cons (pe_op op_modN (pv 0) pe_int) (pa_cons pe_int pa_nil)))))), ?_⟩
    refine ⟨_, rfl, _, rfl, _, _, rfl, rfl, ⟨by decide, by decide, by decide⟩, _, _, rfl, rfl, .inr ⟨_, rfl, ?_⟩⟩
    have hm := fmod_bd (a := c) (b := 2147483647) (by decide)
    have fin : ∀ a : Int, 0 ≤ a → ∀ p, H p = none → Q (.ref p) (upd H p (.lst [.int a, .int (c.fmod 2147483647), .int 0])) := fun a ha p hp => k _ p (Same.new hp) hp ⟨a, _, _, upd_same, ha, hm.1, by omega, by omega, by omega⟩
    by_cases hc : (10 : Int) ^ (18 : Int).toNat ≤ c
    · refine ⟨_, _, rfl, by rw [decide_eq_true hc], .inr ⟨by decide, by decide⟩, _, rfl, _, _, rfl, rfl, by show (2147483647 : Int) ≠ 0; decide, by show 3 ≤ sizeLine; decide, fin _ ?_⟩
      have : (0 : Int) ≤ 10 ^ (18 : Int).toNat := by decide
      show 0 ≤ c * 1
      omega
    · refine ⟨_, _, rfl, by rw [decide_eq_false hc], .inr ⟨by decide, by decide⟩, _, rfl, _, _, rfl, rfl, by show (2147483647 : Int) ≠ 0; decide, by show 3 ≤ sizeLine; decide, fin _ ?_⟩
      show 0 ≤ c * 0
      omega
theorem ok_law_next (T : Tx K mg) : Dn P w K mg base 1 (He.ga K "_law_next") ["_law_source", "_law_many"] sp_law_next := by
  refine dn_of T.F_law_next sc_law_next (fun _ _ _ _ _ _ us hl => match us, hl with | [_, _], _ => rfl) (fun vs H Q E h => ?_) (fun cdv A outer s H vs Q E hr h => ?_)
  · obtain ⟨_, _, _, rfl, _⟩ := h
    rfl
  · obtain ⟨p, n, m, rfl, ⟨a, b, c, hp, ha, hb, hb2, hc, hc2⟩, hn, m1, m2, k⟩ := h
    have hm0 : m ≠ 0 := by omega
    refine ⟨_, (pss_cons (ps_if (pt_cmpR op_gt (pe_ix ix_list (pv 0) pe_int (fun _ _ => rfl)) pe_int (nomark _)) (pss_cons (ps_set (i := 2) sc_law_next.nd rfl (.inl rfl) (pe_op op_modN (pe_ix ix_list (pv 0) pe_int (fun _ _ => rfl)) (pv 1))) (pss_cons (ps_asg (pe_op op_fdivW (pe_ix ix_list (pv 0) pe_int (fun _ _ => rfl)) (pv 1)) (pg_sub (pv 0) pe_int set_list)) (pss_one (ps_ret (pv 2))))) pss_nil) (pss_cons (ps_asg (pe_op op_add (pe_ix ix_list (pv 0) pe_int (fun _ _ => rfl)) pe_int) (pg_sub (pv 0) pe_int set_list)) (pss_cons (ps_set (i := 3) sc_law_next.nd rfl (.inl rfl) (pe_ix ix_list (pe_lst (pa_cons pe_int (pa_cons pe_int (pa_cons pe_int (pa_cons pe_int (pa_cons pe_int (pa_cons pe_int (pa_cons pe_int pa_nil)))))))) (pe_op op_modN (pe_ix ix_list (pv 0) pe_int (fun _ _ => rfl)) pe_int) (fun _ _ => rfl))) (pss_cons (ps_set (i := 4) sc_law_next.nd rfl (.inl rfl) (pe_op op_modN (pe_op op_pow (pe_op op_add (pe_op op_add (pe_ix ix_list (pv 0) pe_int (fun _ _ => rfl)) (pe_op op_mul pe_int (pe_ix ix_list (pv 0) pe_int (fun _ _ => rfl)))) pe_int) pe_int) (pv 3))) (pss_cons (ps_set (i := 4) sc_law_next.nd rfl (.inl rfl) (pe_op op_modN (pe_op op_mul (pe_op op_add (pv 4) (pe_ix ix_list (pv 0) pe_int (fun _ _ => rfl))) (pe_op op_add (pe_op op_fdivN (pv 4) pe_int) pe_int)) (pv 3))) (pss_one (ps_ret (pe_op op_modN (pe_op op_fdivN (pv 4) pe_int) (pv 1))))))))), ?_⟩
    refine ⟨_, rfl, p, _, 0, _, rfl, rfl, SqL.of hp, rfl, _, _, rfl, rfl, _, rfl, ifd (fun h0 => ?_) fun h0 => ?_⟩
    · have hm := fmod_bd (a := a) (b := m) (by omega)
      refine ⟨_, rfl, p, _, 0, _, rfl, rfl, SqL.of hp, rfl, _, rfl, _, _, rfl, rfl, hm0, ?_⟩
      refine ⟨_, rfl, p, _, 0, _, rfl, rfl, SqL.of hp, rfl, _, rfl, _, _, rfl, rfl, wide_div (b := 80) (by omega) (by omega) (by decide) (by decide), ?_⟩
      refine ⟨_, rfl, p, _, 0, 0, rfl, rfl, hp, rfl, _, rfl, ?_⟩
      refine k _ _ ((NP.refl p H).put) ⟨a / m, b, c, upd_same, Int.ediv_nonneg ha (by omega), hb, hb2, hc, by omega⟩ hm.1 hm.2
    · refine ⟨_, rfl, p, _, 2, _, rfl, rfl, SqL.of hp, rfl, _, _, rfl, rfl, _, rfl, p, _, 2, 2, rfl, rfl, hp, rfl, ?_⟩
      have hp1 : upd H p (.lst ([V.int a, .int b, .int c].set 2 (.int (c + 1)))) p = some (.lst [.int a, .int b, .int (c + 1)]) := upd_same
      have np1 : NP p H (upd H p (.lst ([V.int a, .int b, .int c].set 2 (.int (c + 1))))) := (NP.refl p H).put
      generalize upd H p (.lst ([V.int a, .int b, .int c].set 2 (.int (c + 1)))) = H1 at hp1 np1 ⊢
      have h7 := fmod_bd (a := c + 1) (b := 7) (by decide)
      have hpr : ∃ q : Int, atI ([.int 2147483647, .int 2147483629, .int 2147483587, .int 2147483579, .int 2147483563, .int 2147483549, .int 2147483543] : List V) ((c + 1).fmod 7) = some (.int q) ∧ 2147483543 ≤ q ∧ q ≤ 2147483647 := by
        generalize (c + 1).fmod 7 = z at h7
        have h : z = 0 ∨ z = 1 ∨ z = 2 ∨ z = 3 ∨ z = 4 ∨ z = 5 ∨ z = 6 := by omega
        rcases h with rfl | rfl | rfl | rfl | rfl | rfl | rfl
        · exact ⟨_, rfl, by decide, by decide⟩
        · exact ⟨_, rfl, by decide, by decide⟩
        · exact ⟨_, rfl, by decide, by decide⟩
        · exact ⟨_, rfl, by decide, by decide⟩
        · exact ⟨_, rfl, by decide, by decide⟩
        · exact ⟨_, rfl, by decide, by decide⟩
        · exact ⟨_, rfl, by decide, by decide⟩
      obtain ⟨q, hq, q1, q2⟩ := hpr
      refine ⟨by show 7 ≤ sizeLine; decide, fun l hl => ?_⟩
      have hp2 := kept (o := .lst [.int 2147483647, .int 2147483629, .int 2147483587, .int 2147483579, .int 2147483563, .int 2147483549, .int 2147483543]) hp1 hl
      have np2 : NP p H (upd H1 l (.lst [.int 2147483647, .int 2147483629, .int 2147483587, .int 2147483579, .int 2147483563, .int 2147483549, .int 2147483543])) := np1.same (Same.new hl)
      have hl2 : upd H1 l (.lst [.int 2147483647, .int 2147483629, .int 2147483587, .int 2147483579, .int 2147483563, .int 2147483549, .int 2147483543]) l = some (.lst [.int 2147483647, .int 2147483629, .int 2147483587, .int 2147483579, .int 2147483563, .int 2147483549, .int 2147483543]) := upd_same
      generalize upd H1 l (.lst [.int 2147483647, .int 2147483629, .int 2147483587, .int 2147483579, .int 2147483563, .int 2147483549, .int 2147483543]) = H2 at hp2 np2 hl2 ⊢
      refine ⟨_, rfl, p, _, 2, _, rfl, rfl, SqL.of hp2, rfl, _, _, rfl, rfl, by show (7 : Int) ≠ 0; decide, l, _, _, _, rfl, rfl, SqL.of hl2, hq, ?_⟩
      refine ⟨_, rfl, p, _, 1, _, rfl, rfl, SqL.of hp2, rfl, _, rfl, p, _, 2, _, rfl, rfl, SqL.of hp2, rfl, _, _, rfl, rfl, .inl ⟨by decide, by decide⟩, _, _, rfl, rfl, _, _, rfl, rfl, _, _, rfl, rfl, ⟨by decide, by decide, by omega⟩, _, rfl, _, _, rfl, rfl, by omega, ?_⟩
      have hf := fmod_bd (a := (b + 7919 * (c + 1) + 1) ^ (5 : Int).toNat) (b := q) (by omega)
      refine ⟨_, rfl, _, rfl, p, _, 2, _, rfl, rfl, SqL.of hp2, rfl, _, _, rfl, rfl, _, rfl, _, _, rfl, rfl, ⟨by decide, by decide⟩, _, _, rfl, rfl, _, _, rfl, rfl, .inl ⟨by omega, by omega⟩, _, rfl, _, _, rfl, rfl, by omega, ?_⟩
      refine ⟨_, rfl, _, _, rfl, rfl, ⟨by decide, by decide⟩, _, rfl, _, _, rfl, rfl, hm0, ?_⟩
      exact k _ _ np2 ⟨a, b, c + 1, hp2, ha, hb, hb2, by omega, by omega⟩ (fmod_bd (by omega)).1 (fmod_bd (by omega)).2
theorem ok_law_one (T : Tx K mg) : Dn P w K mg base 2 (He.ga K "_law_one") ["_law_source", "_law_some"] (sp_law_one K) := by
  refine dn_of T.F_law_one sc_law_one (fun _ _ _ _ _ _ us hl => match us, hl with | [_, _], _ => rfl) (fun vs H Q E h => ?_) (fun cdv A outer s H vs Q E hr h => ?_)
  · obtain ⟨_, _, _, _, rfl, _⟩ := h
    rfl
  · obtain ⟨p, a, n, xs, rfl, hs, hn, ha, nap, l1, l2, k⟩ := h
    refine ⟨_, (pss_one (ps_ret (pe_ix ix_list (pv 1) (pc (ok_law_next T) hr rfl T.g_law_next (pa_cons (pv 0) (pa_cons (pe_callB call_len_seq (by rfl) T.n_len PySem.boot_len (pa_cons (pv 1) pa_nil)) pa_nil))) (fun _ _ => rfl)))), ?_⟩
    refine ⟨_, rfl, _, rfl, _, rfl, a, _, rfl, .inl (SqL.of ha), p, n, _, rfl, hs, hn, by omega, by omega, fun H1 r np hs1 r0 r1 => ?_⟩
    have hi : r.toNat < xs.length := by omega
    have er : ((r.toNat : Nat) : Int) = r := Int.toNat_of_nonneg r0
    refine ⟨a, _, r, xs[r.toNat], rfl, rfl, SqL.of (np _ _ nap ha), ?_, k _ _ np hs1 (List.getElem_mem hi)⟩
    have := atI_nat (xs := xs) (j := r.toNat) (List.getElem?_eq_getElem hi)
    rw [er] at this
    exact this
theorem ok_law_cell_at (T : Tx K mg) : Dn P w K mg base 1 (He.ga K "_law_cell_at") ["_law_script", "_law_k"] (sp_law_cell_at K) := by
  refine dn_of T.F_law_cell_at sc_law_cell_at (fun _ _ _ _ _ _ us hl => match us, hl with | [_, _], _ => rfl) (fun vs H Q E h => ?_) (fun cdv A outer s H vs Q E hr h => ?_)
  · obtain ⟨_, _, _, rfl, _⟩ := h
    rfl
  · obtain ⟨a, ns, i, rfl, hs, h0, k⟩ := h
    refine ⟨_, (pss_cons (ps_if (pt_cmpR op_lt (pv 1) (pe_callB call_len_seq (by rfl) T.n_len PySem.boot_len (pa_cons (pv 0) pa_nil)) (nomark _)) (pss_one (ps_ret (pe_ix ix_list (pv 0) (pv 1) (fun _ _ => rfl)))) pss_nil) (pss_one (ps_ret pe_int))), ?_⟩
    refine ⟨_, rfl, _, rfl, a, _, rfl, .inl hs, _, _, rfl, rfl, _, rfl, ifd (fun h1 => ?_) fun h1 => k 0⟩
    rw [List.length_map] at h1
    have hi : i.toNat < ns.length := by omega
    have er : ((i.toNat : Nat) : Int) = i := Int.toNat_of_nonneg h0
    refine ⟨_, rfl, _, rfl, a, _, i, .int ns[i.toNat], rfl, rfl, hs, ?_, k _⟩
    have := atI_nat (xs := ns.map V.int) (j := i.toNat) (v := .int ns[i.toNat]) (by rw [List.getElem?_map, List.getElem?_eq_getElem hi]; rfl)
    rw [er] at this
    exact this
theorem seq_nat {i : Int} {n : Nat} (h0 : 0 ≤ i) (h1 : i < n) : seqIndex? i n = some i.toNat := by
  have : ¬ i < 0 := by omega
  simp [seqIndex?, this, h0, h1]
theorem erase_map {α β : Type} (f : α → β) : ∀ (l : List α) (j : Nat), (l.map f).eraseIdx j = (l.eraseIdx j).map f
  | [], _ => rfl
  | _ :: _, 0 => rfl
  | a :: l, j + 1 => congrArg (f a :: ·) (erase_map f l j)
theorem perm_erase {α : Type} : ∀ (l : List α) (j : Nat) {x : α}, l[j]? = some x → l.Perm (x :: l.eraseIdx j)
  | [], _, _, h => by simp at h
  | a :: l, 0, x, h => by
    cases h
    exact List.Perm.refl _
  | a :: l, j + 1, x, h => by
    have h' : l[j]? = some x := by simpa using h
    have := perm_erase l j h'
    show (a :: l).Perm (x :: a :: l.eraseIdx j)
    exact (List.Perm.cons a this).trans (List.Perm.swap x a _)
theorem ok_law_mixed (T : Tx K mg) : Dn P w K mg base 2 (He.ga K "_law_mixed") ["_law_source", "_law_some"] (sp_law_mixed K) := by
  refine dn_of T.F_law_mixed sc_law_mixed (fun _ _ _ _ _ _ us hl => match us, hl with | [_, _], _ => rfl) (fun vs H Q E h => ?_) (fun cdv A outer s H vs Q E hr h => ?_)
  · obtain ⟨_, _, _, _, rfl, _⟩ := h
    rfl
  · obtain ⟨p, a, n, ns, rfl, hs, hn, ha, l1, k⟩ := h
    refine ⟨_, (pss_cons (ps_set (i := 2) sc_law_mixed.nd rfl (.inl rfl) (pe_callTy call_list_of (by rfl) T.n_list (by decide +kernel) (pa_cons (pv 1) pa_nil))) (pss_cons (ps_set (i := 3) sc_law_mixed.nd rfl (.inl rfl) (pe_lst pa_nil)) (pss_cons (ps_while PassesOwn.never (pt_cmpR (op_neD hr.units) (pv 2) (pe_lst pa_nil) (nomark _)) (pss_one (ps_expr (pe_bm PySem.F.plainAttrs_list PySem.F.slot_list_append PySem.F.type_list_append mt_append (pv 3) (pa_cons (pe_bm PySem.F.plainAttrs_list PySem.F.slot_list_pop PySem.F.type_list_pop mt_popAt (pv 2) (pa_cons (pc (ok_law_next T) hr rfl T.g_law_next (pa_cons (pv 0) (pa_cons (pe_callB call_len_seq (by rfl) T.n_len PySem.boot_len (pa_cons (pv 2) pa_nil)) pa_nil))) pa_nil)) pa_nil))))) (pss_one (ps_ret (pv 3)))))), ?_⟩
    refine ⟨_, rfl, a, _, rfl, .inl ha, fun l hl => ?_⟩
    refine ⟨Nat.zero_le _, fun m hm => ?_⟩
    have hlp : l ≠ p := fun z => hs.ne (by rw [← z]; exact hl)
    have s1 : Same H (upd (upd H l (.lst (ns.map V.int))) m (.lst [])) := (Same.new hl).trans (Same.new hm)
    have hm0 : H m = none := (Same.new hl).free hm
    have hmp : m ≠ p := fun z => hs.ne (by rw [← z]; exact hm0)
    have hlm : l ≠ m := ne_of_none (upd_same (H := H) (a := l) (o := .lst (ns.map V.int))) hm
    refine while_by (fun σ H' => σ = [some (.ref p), some (.ref a), some (.ref l), some (.ref m)] ∧ NP p H H' ∧ ∃ (rest ms : List Int), H' l = some (.lst (rest.map V.int)) ∧ H' m = some (.lst (ms.map V.int)) ∧ (ms ++ rest).Perm ns ∧ SrcAt H' p (n + ms.length)) (fun σ H' => match H' l with | some (.lst xs) => xs.length | _ => 0)
      ⟨rfl, NP.of s1, ns, [], kept upd_same hm, upd_same, List.Perm.refl _, hs.same s1⟩ ?_ ?_
    · rintro σ H1 ⟨rfl, np1, rest, ms, hl1, hm1, pm, hs1⟩
      have lpm := pm.length_eq
      rw [List.length_append] at lpm
      refine ⟨_, rfl, Nat.zero_le _, fun z hz => ⟨_, _, .lst (SqL.of (kept hl1 hz)) (dp_ints rest), .lst (SqL.of upd_same) .nil, shaped_ints rest, rfl, _, rfl, ?_⟩⟩
      rw [eqv_nilI]
      have hl2 := kept (o := .lst []) hl1 hz
      have hm2 := kept (o := .lst []) hm1 hz
      have np2 : NP p H (upd H1 z (.lst [])) := np1.same (Same.new hz)
      have hs2 := hs1.same (Same.new (o := .lst []) hz)
      generalize upd H1 z (.lst []) = H2 at hl2 hm2 np2 hs2 ⊢
      cases hrest : rest with
      | nil =>
        refine ifF rfl ⟨_, rfl, k H2 m ms np2 hm0 hm2 ?_ ?_⟩
        · rw [hrest, List.append_nil] at pm
          exact pm
        · rw [hrest, List.length_nil, Nat.add_zero] at lpm
          rw [← lpm]
          exact hs2
      | cons r0 rs =>
        rw [← hrest]
        have hpos : 0 < rest.length := by rw [hrest]; simp
        refine ifT (by rw [hrest]; rfl) ?_
        refine ⟨_, rfl, .inl ⟨rfl, _, SqL.of hm2⟩, _, rfl, .inl ⟨rfl, _, SqL.of hl2⟩, _, rfl, _, rfl, l, _, rfl, .inl (SqL.of hl2), p, n + ms.length, _, rfl, hs2, by omega, ?_, ?_, fun H3 r np3 hs3 r0' r1 => ?_⟩
        · rw [List.length_map]
          omega
        · rw [List.length_map]
          omega
        · rw [List.length_map] at r1
          have hl3 := np3 _ _ hlp hl2
          have hm3 := np3 _ _ hmp hm2
          have hi : r.toNat < rest.length := by omega
          have hj : rest[r.toNat]? = some rest[r.toNat] := List.getElem?_eq_getElem hi
          refine ⟨l, _, r, r.toNat, .int rest[r.toNat], rfl, rfl, hl3, by omega, by omega, by rw [List.length_map]; exact seq_nat r0' r1, by rw [List.getElem?_map, hj]; rfl, ?_⟩
          have e1 : (rest.map V.int).eraseIdx r.toNat = (rest.eraseIdx r.toNat).map V.int := erase_map _ _ _
          rw [e1]
          have hm4 : upd H3 l (.lst ((rest.eraseIdx r.toNat).map V.int)) m = some (.lst (ms.map V.int)) := by rw [upd_ne hlm.symm]; exact hm3
          refine ⟨m, _, _, rfl, rfl, hm4, by rw [List.length_map]; exact small1000 (by omega), ?_⟩
          have hs5 : SrcAt (upd (upd H3 l (.lst ((rest.eraseIdx r.toNat).map V.int))) m (.lst (ms.map V.int ++ [.int rest[r.toNat]]))) p (n + (ms ++ [rest[r.toNat]]).length) := by
            obtain ⟨x, y, z, h1, h2⟩ := hs3
            rw [List.length_append]
            exact ⟨x, y, z, by rw [upd_ne hmp.symm, upd_ne hlp.symm]; exact h1, h2⟩
          refine ⟨⟨rfl, fun b o nb e => ?_, rest.eraseIdx r.toNat, ms ++ [rest[r.toNat]], by rw [upd_ne hlm, upd_same], by rw [upd_same, List.map_append]; rfl, ?_, hs5⟩, ?_⟩
          · rw [upd_ne (ne_of_none e hm0), upd_ne (ne_of_none e hl)]
            exact np3 _ _ nb (np2 _ _ nb e)
          · have := perm_erase rest r.toNat hj
            refine List.Perm.trans ?_ pm
            rw [List.append_assoc]
            exact List.Perm.append_left ms this.symm
          · show (match (upd (upd H3 l (.lst ((rest.eraseIdx r.toNat).map V.int))) m (.lst (ms.map V.int ++ [.int rest[r.toNat]]))) l with | some (.lst xs) => xs.length | _ => 0) < (match H1 l with | some (.lst xs) => xs.length | _ => 0)
            rw [upd_ne hlm, upd_same, hl1]
            simp only [List.length_map]
            rw [List.length_eraseIdx_of_lt hi]
            omega
    · rintro σ H1 Q1 Q2 F' ⟨v, e1, h1, h2⟩
      exact ⟨v, e1, h1, fun z hz => let ⟨d1, d2, a1, a2, a3, a4, k1, k2, q1⟩ := h2 z hz; ⟨d1, d2, a1, a2, a3, a4, k1, k2, F' _ _ q1⟩⟩
end
end Wm
end
section
set_option Elab.async false
set_option linter.all false
set_option maxRecDepth 100000
set_option maxHeartbeats 4000000
/-! The law's own shops: walked. -/
namespace Wm
open PySem PySem.Spec PyProof.Rows L2 WmM
set_option autoImplicit false
/-- what is drawn for a shop, at t -/
def PrAt (H : Hp) (a : Addr) (d : Int × Int) : Prop := H a = some (.tup [.int d.1, .int d.2])
def SpecAt (H : Hp) (t src : Addr) (S : Shp) : Prop := ∃ (ld ll : Addr) (as : List Addr), H t = some (.tup [.ref ld, .ref ll]) ∧ ld ≠ src ∧ ll ≠ src ∧ H ld = some (.lst (as.map V.ref)) ∧ Paired (PrAt H) as S.ds ∧ H ll = some (.lst (S.ls.map V.int))
theorem SrcAt.tup {H : Hp} {p a : Addr} {n : Nat} {xs : List V} (h : SrcAt H p n) (e : H a = some (.tup xs)) : a ≠ p := fun z => by
  obtain ⟨_, _, _, h1, _⟩ := h
  rw [z, h1] at e
  cases e
theorem SrcAt.refs {H : Hp} {p a : Addr} {n : Nat} {as : List Addr} (h : SrcAt H p n) (e : H a = some (.lst (as.map V.ref))) : a ≠ p := fun z => by
  obtain ⟨_, _, _, h1, _⟩ := h
  rw [z, h1] at e
  cases as with
  | nil => cases e
  | cons b bs => cases e
theorem PrAt.np {H H' : Hp} {p a : Addr} {n : Nat} {d : Int × Int} (k : NP p H H') (h : SrcAt H p n) (e : PrAt H a d) : PrAt H' a d := k _ _ (h.tup e) e
theorem SpecAt.np {H H' : Hp} {t src : Addr} {n : Nat} {S : Shp} (k : NP src H H') (h : SrcAt H src n) (e : SpecAt H t src S) : SpecAt H' t src S := by
  obtain ⟨ld, ll, as, h1, n1, n2, h2, pa, h3⟩ := e
  exact ⟨ld, ll, as, k _ _ (h.tup h1) h1, n1, n2, k _ _ n1 h2, paired_imp (fun a d e => e.np k h) pa, k _ _ n2 h3⟩
structure SmallS (S : Shp) : Prop where
  ok : ShpOk S
  len : (facesOf S).length ≤ 50
theorem flat_len {α : Type} {f : Nat → List α} {c : Nat} : ∀ n : Nat, (∀ i, i < n → (f i).length ≤ c) → ((List.range n).flatMap f).length ≤ n * c
  | 0, _ => by simp
  | n + 1, h => by
    rw [List.range_succ, List.flatMap_append, List.flatMap_singleton, List.length_append, Nat.add_mul, Nat.one_mul]
    exact Nat.add_le_add (flat_len n fun i hi => h i (by omega)) (h n (by omega))
theorem small_of {S : Shp} (A a B b : Nat) (d1 : 1 ≤ S.ds.length) (d2 : S.ds.length ≤ A) (A3 : A ≤ 3) (dr : ∀ d ∈ S.ds, DrumR d.1 d.2 ∧ d.1 ≤ a) (l1 : 1 ≤ S.ls.length) (l2 : S.ls.length ≤ B) (B6 : B ≤ 6) (lr : ∀ l ∈ S.ls, 1 ≤ l ∧ l ≤ b) (b40 : b ≤ 40) (le : A * a + B * (b * 2) ≤ 50) : SmallS S := by
  refine ⟨⟨d1, by omega, fun d h => (dr d h).1, l1, by omega, fun l h => ⟨(lr l h).1, by have := (lr l h).2; omega⟩⟩, ?_⟩
  have h1 : ((List.range S.ds.length).flatMap (dF S.ds)).length ≤ S.ds.length * a := flat_len _ fun i hi => by
    unfold dF
    rw [List.length_map, List.length_range]
    have : S.ds.getD i (0, 0) ∈ S.ds := by rw [List.getD_eq_getElem?_getD, List.getElem?_eq_getElem hi]; exact List.getElem_mem hi
    have := (dr _ this).2
    omega
  have h2 : ((List.range S.ls.length).flatMap (sF S.ls)).length ≤ S.ls.length * (b * 2) := flat_len _ fun i hi => by
    unfold sF
    have : S.ls.getD i 0 ∈ S.ls := by rw [List.getD_eq_getElem?_getD, List.getElem?_eq_getElem hi]; exact List.getElem_mem hi
    have := (lr _ this).2
    refine Nat.le_trans (flat_len (c := 2) _ fun j hj => Nat.le_refl 2) (Nat.mul_le_mul_right 2 (by omega))
  unfold facesOf
  rw [List.length_append]
  have h3 := Nat.mul_le_mul_right a d2
  have h4 := Nat.mul_le_mul_right (b * 2) l2
  omega
/-- whole numbers drawn into the list at E -/
def IntsI (src E : Addr) (H : Hp) (n : Nat) (lo hi : Int) (i : Nat) (H' : Hp) : Prop := H E = none ∧ NP src H H' ∧ SrcAt H' src (n + i) ∧ E ≠ src ∧ ∃ ls : List Int, H' E = some (.lst (ls.map V.int)) ∧ ls.length = i ∧ ∀ l ∈ ls, lo ≤ l ∧ l ≤ hi
theorem IntsI.start {src E : Addr} {H H0 : Hp} {n : Nat} {lo hi : Int} (np : NP src H0 H) (h : H E = none) (s : SrcAt H src n) : IntsI src E H0 n lo hi 0 (upd H E (.lst [])) :=
  ⟨np.old s.ne h, np.same (Same.new h), s.same (Same.new h), fun z => s.ne (by rw [← z]; exact h), [], upd_same, rfl, fun _ h => nomatch h⟩
theorem IntsI.step {src E : Addr} {H H1 H2 : Hp} {n i : Nat} {lo hi x : Int} (a : IntsI src E H n lo hi i H1) (np : NP src H1 H2) (s : SrcAt H2 src (n + i + 1)) (x1 : lo ≤ x) (x2 : x ≤ hi) (l : i ≤ 900) :
    ∃ acc, H2 E = some (.lst acc) ∧ acc.length < sizeLine ∧ IntsI src E H n lo hi (i + 1) (upd H2 E (.lst (acc ++ [.int x]))) := by
  obtain ⟨n0, n1, s1, ne, ls, h1, h2, h3⟩ := a
  have h4 := np _ _ ne h1
  refine ⟨_, h4, by rw [List.length_map]; exact small1000 (by omega), n0, fun b o nb e => ?_, ?_, ne, ls ++ [x], by rw [upd_same, List.map_append]; rfl, by rw [List.length_append, h2]; rfl, fun l hl => ?_⟩
  · rw [upd_ne (ne_of_none e n0)]
    exact np _ _ nb (n1 _ _ nb e)
  · obtain ⟨a, b, c, q⟩ := s
    exact ⟨a, b, c, by rw [upd_ne ne.symm]; exact q.1, q.2⟩
  · rcases List.mem_append.mp hl with h | h
    · exact h3 l h
    · rw [List.mem_singleton.mp h]
      exact ⟨x1, x2⟩
/-- drums drawn into the list at E -/
def DrsI (src E : Addr) (H : Hp) (n : Nat) (a b : Int) (i : Nat) (H' : Hp) : Prop := H E = none ∧ NP src H H' ∧ SrcAt H' src (n + 2 * i) ∧ ∃ (as : List Addr) (ds : List (Int × Int)), H' E = some (.lst (as.map V.ref)) ∧ Paired (PrAt H') as ds ∧ ds.length = i ∧ ∀ d ∈ ds, DrumR d.1 d.2 ∧ d.1 ≤ a
theorem DrsI.start {src E : Addr} {H H0 : Hp} {n : Nat} {a b : Int} (np : NP src H0 H) (h : H E = none) (s : SrcAt H src n) : DrsI src E H0 n a b 0 (upd H E (.lst [])) :=
  ⟨np.old s.ne h, np.same (Same.new h), s.same (Same.new h), [], [], upd_same, .nil, rfl, fun _ h => nomatch h⟩
theorem DrsI.step {src E q : Addr} {H H1 H2 : Hp} {n i : Nat} {a b f s : Int} (h : DrsI src E H n a b i H1) (np : NP src H1 H2) (hs : SrcAt H2 src (n + 2 * i + 2)) (hq : H2 q = none) (f1 : 1 ≤ f) (f2 : f ≤ a) (a40 : a ≤ 40) (s1 : 0 ≤ s) (s2 : s ≤ 40) (l : i ≤ 900) :
    ∃ acc, upd H2 q (.tup [.int f, .int s]) E = some (.lst acc) ∧ acc.length < sizeLine ∧ DrsI src E H n a b (i + 1) (upd (upd H2 q (.tup [.int f, .int s])) E (.lst (acc ++ [.ref q]))) := by
  obtain ⟨n0, n1, s1', as, ds, h1, pa, h2, h3⟩ := h
  have ne := s1'.refs h1
  have h4 := kept (o := .tup [.int f, .int s]) (np _ _ ne h1) hq
  have np2 := np.same (Same.new (o := .tup [.int f, .int s]) hq)
  have hs2 := hs.same (Same.new (o := .tup [.int f, .int s]) hq)
  have e2 : upd H2 q (.tup [.int f, .int s]) q = some (.tup [.int f, .int s]) := upd_same
  generalize upd H2 q (.tup [.int f, .int s]) = H3 at h4 np2 hs2 e2 ⊢
  refine ⟨_, h4, by rw [List.length_map, Paired.length pa]; exact small1000 (by omega), n0, fun b o nb e => ?_, ?_, as ++ [q], ds ++ [(f, s)], by rw [upd_same, List.map_append]; rfl, ?_, by rw [List.length_append, h2]; rfl, fun d hd => ?_⟩
  · rw [upd_ne (ne_of_none e n0)]
    exact np2 _ _ nb (n1 _ _ nb e)
  · obtain ⟨a, b, c, z⟩ := hs2
    exact ⟨a, b, c, by rw [upd_ne ne.symm]; exact z.1, z.2⟩
  · refine paired_app (paired_imp (fun x d e => ?_) pa) (.cons ?_ .nil)
    · exact TK.lst h4 _ _ (e.np np2 s1')
    · exact TK.lst h4 _ _ e2
  · rcases List.mem_append.mp hd with h | h
    · exact h3 d h
    · rw [List.mem_singleton.mp h]
      exact ⟨⟨f1, by show f ≤ 40; omega, s1, s2⟩, f2⟩
def sp_law_spec : Sp := fun vs H Q _ => ∃ (p : Addr) (n : Nat), vs = [.ref p, .int 7] ∧ SrcAt H p n ∧ n ≤ 90000 ∧ ∀ H' t S, NP p H H' → SrcAt H' p (n + 40) → SpecAt H' t p S → SmallS S → Q (.ref t) H'
section
variable {P : Program} {w : World} {K : PySem.W.Frag} {mg : Str → Option Value} {base : Heap}
theorem ok_law_spec (T : Tx K mg) : Dn P w K mg base 2 (He.ga K "_law_spec") ["_law_source", "_law_most"] sp_law_spec := by
  refine dn_of T.F_law_spec sc_law_spec (fun _ _ _ _ _ _ us hl => match us, hl with | [_, _], _ => rfl) (fun vs H Q E h => ?_) (fun cdv A outer s H vs Q E hr h => ?_)
  · obtain ⟨_, _, rfl, _⟩ := h
    rfl
  · obtain ⟨p, n, rfl, hs, hn, k⟩ := h
    refine ⟨_, (pss_cons (ps_set (i := 2) sc_law_spec.nd rfl (.inl rfl) (pc (ok_law_next T) hr rfl T.g_law_next (pa_cons (pv 0) (pa_cons pe_int pa_nil)))) (pss_cons (ps_if (pt_cmpR op_eq (pv 2) pe_int (nomark _)) (pss_cons (ps_setLc (i := 3) (own := [("_law_k", 4)]) (g := (gName 4)) rfl sc_law_spec.nd rfl rfl (sw_true rfl rfl rfl (by decide +kernel)) (pi_range1 (by rfl) T.n_range (pa_cons pe_int pa_nil)) (blkOk_by (own := [("_law_k", 4)]) (N := ["_law_source", "_law_most", "_law_wide", "_law_some", "_law_k", "_law_drums"]) (sc := (defScope s_law_spec)) (by decide +kernel)) (fun _ _ _ _ _ => (pg_name (i := 4) sc_law_spec.nd rfl (.inl rfl))) (fun _ _ _ _ _ => pts_nil) (fun _ _ _ _ _ => (pe_tup (pa_cons (pe_op op_add pe_int (pc (ok_law_next T) hr rfl T.g_law_next (pa_cons (pv 0) (pa_cons pe_int pa_nil)))) (pa_cons (pc (ok_law_next T) hr rfl T.g_law_next (pa_cons (pv 0) (pa_cons pe_int pa_nil))) pa_nil))))) (pss_one (ps_ret (pe_tup (pa_cons (pv 3) (pa_cons (pe_lc (own := [("_law_k", 4)]) (g := (gName 4)) rfl sc_law_spec.nd (pi_range1 (by rfl) T.n_range (pa_cons (pe_op op_add pe_int (pc (ok_law_next T) hr rfl T.g_law_next (pa_cons (pv 0) (pa_cons pe_int pa_nil)))) pa_nil)) (blkOk_by (own := [("_law_k", 4)]) (N := ["_law_source", "_law_most", "_law_wide", "_law_some", "_law_k", "_law_drums"]) (sc := (defScope s_law_spec)) (by decide +kernel)) (fun _ _ _ _ _ => (pg_name (i := 4) sc_law_spec.nd rfl (.inl rfl))) (fun _ _ _ _ _ => pts_nil) (fun _ _ _ _ _ => (pe_op op_add pe_int (pc (ok_law_next T) hr rfl T.g_law_next (pa_cons (pv 0) (pa_cons pe_int pa_nil)))))) pa_nil)))))) pss_nil) (pss_cons (ps_if (pt_cmpR op_eq (pv 2) pe_int (nomark _)) (pss_one (ps_ret (pe_tup (pa_cons (pe_lst (pa_cons (pe_tup (pa_cons (pe_op op_add pe_int (pc (ok_law_next T) hr rfl T.g_law_next (pa_cons (pv 0) (pa_cons pe_int pa_nil)))) (pa_cons (pc (ok_law_next T) hr rfl T.g_law_next (pa_cons (pv 0) (pa_cons pe_int pa_nil))) pa_nil))) pa_nil)) (pa_cons (pe_lst (pa_cons (pe_op op_add pe_int (pc (ok_law_next T) hr rfl T.g_law_next (pa_cons (pv 0) (pa_cons pe_int pa_nil)))) pa_nil)) pa_nil))))) pss_nil) (pss_cons (ps_set (i := 5) sc_law_spec.nd rfl (.inl rfl) (pe_lst pa_nil)) (pss_cons (ps_for PassesOwn.never rfl (pi_range1 (by rfl) T.n_range (pa_cons (pe_op op_add pe_int (pc (ok_law_next T) hr rfl T.g_law_next (pa_cons (pv 0) (pa_cons pe_int pa_nil)))) pa_nil)) (pg_name (i := 4) sc_law_spec.nd rfl (.inl rfl)) (pss_one (ps_expr (pe_bm PySem.F.plainAttrs_list PySem.F.slot_list_append PySem.F.type_list_append mt_append (pv 5) (pa_cons (pe_tup (pa_cons (pe_op op_add pe_int (pc (ok_law_next T) hr rfl T.g_law_next (pa_cons (pv 0) (pa_cons pe_int pa_nil)))) (pa_cons (pc (ok_law_next T) hr rfl T.g_law_next (pa_cons (pv 0) (pa_cons pe_int pa_nil))) pa_nil))) pa_nil))))) (pss_one (ps_ret (pe_tup (pa_cons (pv 5) (pa_cons (pe_lc (own := [("_law_k", 4)]) (g := (gName 4)) rfl sc_law_spec.nd (pi_range1 (by rfl) T.n_range (pa_cons (pe_op op_add pe_int (pc (ok_law_next T) hr rfl T.g_law_next (pa_cons (pv 0) (pa_cons pe_int pa_nil)))) pa_nil)) (blkOk_by (own := [("_law_k", 4)]) (N := ["_law_source", "_law_most", "_law_wide", "_law_some", "_law_k", "_law_drums"]) (sc := (defScope s_law_spec)) (by decide +kernel)) (fun _ _ _ _ _ => (pg_name (i := 4) sc_law_spec.nd rfl (.inl rfl))) (fun _ _ _ _ _ => pts_nil) (fun _ _ _ _ _ => (pe_op op_add pe_int (pc (ok_law_next T) hr rfl T.g_law_next (pa_cons (pv 0) (pa_cons (pv 1) pa_nil)))))) pa_nil)))))))))), ?_⟩
    refine ⟨_, rfl, p, n, 8, rfl, hs, by omega, by omega, by omega, fun H1 r np1 hs1 r0 r1 => ?_⟩
    refine ⟨_, rfl, rfl, _, rfl, ifd (fun _ => ?_) fun _ => ?_⟩
    · refine ⟨3, rfl, by decide, by decide, fun E hE => ?_⟩
      refine lc_it walk_range (DrsI p E H (n + 1) 4 3) (DrsI.start np1 hE hs1) (fun _ _ _ _ => trivial) ?_ ?_
      · rintro i x H2 H3 hi d ⟨rfl, rfl⟩
        have hi : i < 3 := hi
        refine ⟨rfl, _, rfl, p, n + 1 + 2 * i, 4, rfl, d.2.2.1, by omega, by omega, by omega, fun H4 f np4 hs4 f0 f1 => ?_⟩
        refine ⟨_, _, rfl, rfl, _, rfl, p, _, 4, rfl, hs4, by omega, by omega, by omega, fun H5 s np5 hs5 s0 s1 => ?_⟩
        refine ⟨by show 2 ≤ sizeLine; decide, fun q hq => d.step (np4.trans np5) hs5 hq (by omega) (by omega) (by omega) (by omega) (by omega) (by omega)⟩
      · rintro H2 ⟨n0, np2, hs2, as, ds, hE2, pa, ld, od⟩
        have neE := hs2.refs hE2
        refine ⟨_, rfl, _, rfl, p, _, 3, rfl, hs2, by omega, by omega, by omega, fun H3 c np3 hs3 c0 c1 => ?_⟩
        refine ⟨_, _, rfl, rfl, 4 + c, rfl, by omega, by omega, fun F hF => ?_⟩
        refine lc_it walk_range (IntsI p F H2 (n + 8) 1 2) (IntsI.start np3 hF (hs3.mono (by omega))) (fun _ _ _ _ => trivial) ?_ ?_
        · rintro i x H4 H5 hi d ⟨rfl, rfl⟩
          have hi : i < (4 + c).toNat := hi
          refine ⟨rfl, _, rfl, p, n + 8 + i, 2, rfl, d.2.2.1, by omega, by omega, by omega, fun H6 l np6 hs6 l0 l1 => ?_⟩
          exact ⟨_, _, rfl, rfl, d.step np6 hs6 (by omega) (by omega) (by omega)⟩
        · rintro H4 ⟨m0, np4, hs4, neF, ls, hF4, ll, ol⟩
          refine ⟨by show 2 ≤ sizeLine; decide, fun t ht => ?_⟩
          have s5 : Same H4 (upd H4 t (.tup [.ref E, .ref F])) := Same.new ht
          refine k _ _ ⟨ds, ls⟩ ((np2.trans np4).same s5) ((hs4.same s5).mono (by omega)) ⟨E, F, as, upd_same, neE, neF, s5 _ _ (np4 _ _ neE hE2), paired_imp (fun a d e => e.np (np4.same s5) hs2) pa, s5 _ _ hF4⟩ (small_of 3 4 6 2 (by show 1 ≤ ds.length; omega) (by show ds.length ≤ 3; omega) (by omega) od (by show 1 ≤ ls.length; omega) (by show ls.length ≤ 6; omega) (by omega) ol (by omega) (by omega))
    · refine ⟨_, rfl, rfl, _, rfl, ifd (fun _ => ?_) fun _ => ?_⟩
      · refine ⟨_, rfl, p, _, 12, rfl, hs1, by omega, by omega, by omega, fun H2 f np2 hs2 f0 f1 => ?_⟩
        refine ⟨_, _, rfl, rfl, _, rfl, p, _, 25, rfl, hs2, by omega, by omega, by omega, fun H3 s np3 hs3 s0 s1 => ?_⟩
        refine ⟨by show 2 ≤ sizeLine; decide, fun q hq => ⟨by show 1 ≤ sizeLine; decide, fun E hE => ?_⟩⟩
        have sa : Same H3 (upd H3 q (.tup [.int (1 + f), .int s])) := Same.new hq
        have hq1 : upd H3 q (.tup [.int (1 + f), .int s]) q = some (.tup [.int (1 + f), .int s]) := upd_same
        generalize upd H3 q (.tup [.int (1 + f), .int s]) = H4 at sa hq1 hE ⊢
        have sb : Same H4 (upd H4 E (.lst [.ref q])) := Same.new hE
        have hE1 : upd H4 E (.lst [.ref q]) E = some (.lst [.ref q]) := upd_same
        generalize upd H4 E (.lst [.ref q]) = H5 at sb hE1 ⊢
        have hs5 := (hs3.same sa).same sb
        have np5 := (((np1.trans np2).trans np3).same sa).same sb
        have neE : E ≠ p := hs5.refs (as := [q]) hE1
        refine ⟨_, rfl, p, _, 4, rfl, hs5, by omega, by omega, by omega, fun H6 l np6 hs6 l0 l1 => ?_⟩
        refine ⟨_, _, rfl, rfl, by show 1 ≤ sizeLine; decide, fun F hF => ⟨by show 2 ≤ sizeLine; decide, fun t ht => ?_⟩⟩
        have neF : F ≠ p := fun z => hs6.ne (by rw [← z]; exact hF)
        have sc : Same H6 (upd H6 F (.lst [.int (11 + l)])) := Same.new hF
        have hF1 : upd H6 F (.lst [.int (11 + l)]) F = some (.lst [.int (11 + l)]) := upd_same
        generalize upd H6 F (.lst [.int (11 + l)]) = H7 at sc hF1 ht ⊢
        have sd : Same H7 (upd H7 t (.tup [.ref E, .ref F])) := Same.new ht
        have np8 := (np6.same sc).same sd
        refine k _ _ ⟨[(1 + f, s)], [11 + l]⟩ (np5.trans np8) (((hs6.same sc).same sd).mono (by omega)) ⟨E, F, [q], upd_same, neE, neF, np8 _ _ neE hE1, .cons ?_ .nil, sd _ _ hF1⟩ (small_of 1 12 1 14 (Nat.le_refl 1) (Nat.le_refl 1) (by omega) ?_ (Nat.le_refl 1) (Nat.le_refl 1) (by omega) ?_ (by omega) (by omega))
        · exact PrAt.np (d := (1 + f, s)) np8 hs5 (sb _ _ hq1)
        · intro d hd
          rw [List.mem_singleton.mp hd]
          exact ⟨⟨by show 1 ≤ 1 + f; omega, by show 1 + f ≤ 40; omega, s0, by show s ≤ 40; omega⟩, by show 1 + f ≤ 12; omega⟩
        · intro d hd
          rw [List.mem_singleton.mp hd]
          exact ⟨by omega, by omega⟩
      · refine ⟨by show 0 ≤ sizeLine; decide, fun E hE => ?_⟩
        have d0 : DrsI p E H (n + 2) 4 3 0 (upd H1 E (.lst [])) := DrsI.start np1 hE (hs1.mono (by omega))
        generalize upd H1 E (.lst []) = H2 at d0 ⊢
        refine ⟨_, rfl, p, n + 2, 2, rfl, d0.2.2.1, by omega, by omega, by omega, fun H3 c np3 hs3 c0 c1 => ?_⟩
        refine ⟨_, _, rfl, rfl, 1 + c, rfl, by omega, by omega, ?_⟩
        refine for_it walk_range (fun i σ H' => (∃ x, σ = [some (.ref p), some (.int 7), some (.int r), none, x, some (.ref E)]) ∧ DrsI p E H (n + 3) 4 3 i H') ⟨⟨_, rfl⟩, ?_⟩ (fun _ _ _ _ _ => trivial) ?_ ?_
        · obtain ⟨m0, np4, hs4, as, ds, hE4, pa, ld, od⟩ := d0
          exact ⟨m0, np4.trans np3, hs3, as, ds, np3 _ _ (hs4.refs hE4) hE4, paired_imp (fun a d e => e.np np3 hs4) pa, ld, od⟩
        · rintro i x σ H4 H5 hi ⟨⟨y, rfl⟩, d⟩ ⟨rfl, rfl⟩
          have hi : i < (1 + c).toNat := hi
          have hE4 := d.2.2.2
          obtain ⟨as, ds, hE5, pa, ld, od⟩ := hE4
          refine ⟨_, rfl, .inl ⟨rfl, _, SqL.of hE5⟩, _, rfl, p, _, 4, rfl, d.2.2.1, by omega, by omega, by omega, fun H6 f np6 hs6 f0 f1 => ?_⟩
          refine ⟨_, _, rfl, rfl, _, rfl, p, _, 4, rfl, hs6, by omega, by omega, by omega, fun H7 s np7 hs7 s0 s1 => ?_⟩
          refine ⟨by show 2 ≤ sizeLine; decide, fun q hq => ?_⟩
          obtain ⟨acc, e1, e2, e3⟩ := d.step (np6.trans np7) hs7 hq (f := 1 + f) (s := s) (by omega) (by omega) (by omega) (by omega) (by omega) (by omega)
          exact ⟨E, _, _, rfl, rfl, e1, e2, ⟨_, rfl⟩, e3⟩
        · rintro σ H4 ⟨⟨y, rfl⟩, n0, np4, hs4, as, ds, hE4, pa, ld, od⟩
          have neE := hs4.refs hE4
          refine ⟨_, rfl, _, rfl, p, _, 3, rfl, hs4, by omega, by omega, by omega, fun H5 l np5 hs5 l0 l1 => ?_⟩
          refine ⟨_, _, rfl, rfl, 1 + l, rfl, by omega, by omega, fun F hF => ?_⟩
          refine lc_it walk_range (IntsI p F H4 (n + 8) 1 7) (IntsI.start np5 hF (hs5.mono (by omega))) (fun _ _ _ _ => trivial) ?_ ?_
          · rintro i x H6 H7 hi d ⟨rfl, rfl⟩
            have hi : i < (1 + l).toNat := hi
            refine ⟨rfl, _, rfl, _, rfl, p, n + 8 + i, 7, rfl, d.2.2.1, by omega, by omega, by omega, fun H8 m np8 hs8 m0 m1 => ?_⟩
            exact ⟨_, _, rfl, rfl, d.step np8 hs8 (by omega) (by omega) (by omega)⟩
          · rintro H6 ⟨m0, np6, hs6, neF, ls, hF6, ll, ol⟩
            refine ⟨by show 2 ≤ sizeLine; decide, fun t ht => ?_⟩
            have s7 : Same H6 (upd H6 t (.tup [.ref E, .ref F])) := Same.new ht
            refine k _ _ ⟨ds, ls⟩ ((np4.trans np6).same s7) ((hs6.same s7).mono (by omega)) ⟨E, F, as, upd_same, neE, neF, s7 _ _ (np6 _ _ neE hE4), paired_imp (fun a d e => e.np (np6.same s7) hs4) pa, s7 _ _ hF6⟩ (small_of 2 4 3 7 (by show 1 ≤ ds.length; omega) (by show ds.length ≤ 2; omega) (by omega) od (by show 1 ≤ ls.length; omega) (by show ls.length ≤ 3; omega) (by omega) ol (by omega) (by omega))
end
end Wm
end
section
set_option Elab.async false
set_option linter.all false
set_option maxRecDepth 100000
set_option maxHeartbeats 4000000
/-! The law's own shops, plies, rows: walked. -/
namespace Wm
open PySem PySem.Spec PyProof.Rows L2 WmM
set_option autoImplicit false
def sp_law_shop (K : PySem.W.Frag) : Sp := fun vs H Q _ => ∃ (t src : Addr) (S : Shp), vs = [.ref t] ∧ SpecAt H t src S ∧ ShpOk S ∧ ∀ (H' : Hp) (p ll : Addr), Same H H' → H ll = none → ShopL K H' p ll S → Q (.ref p) H'
def sp_law_plies (K : PySem.W.Frag) : Sp := fun vs H Q _ => ∃ (p t : Addr) (n : Nat) (S : Shp), vs = [.ref p, .ref t] ∧ SrcAt H p n ∧ n ≤ 95000 ∧ SpecAt H t p S ∧ ShpOk S ∧ ∀ (H' : Hp) (l : Addr) (ps : List Ply), NP p H H' → SrcAt H' p (n + 16) → PliesAt H' l ps → PliesOk S ps → H l = none → Q (.ref l) H'
def RowSm (S : Shp) (row : List Deed) : Prop := row.length ≤ 3 ∧ ∀ d ∈ row, DeedOk S d ∧ d.b ≤ 10 ^ 20
def sp_law_row (K : PySem.W.Frag) : Sp := fun vs H Q _ => ∃ (p t : Addr) (n : Nat) (S : Shp), vs = [.ref p, .ref t, .int 3] ∧ SrcAt H p n ∧ n ≤ 93000 ∧ SpecAt H t p S ∧ ShpOk S ∧ ∀ (H' : Hp) (l : Addr) (row : List Deed), NP p H H' → SrcAt H' p (n + 60) → RowAt H' l row → RowSm S row → H l = none → Q (.ref l) H'
theorem cutTo (xs : List V) (k : Int) (h : 0 ≤ k) : cutV xs none (some k) = xs.take k.toNat := by
  have e : HT.sIx xs.length xs.length (some k) = min k.toNat xs.length := by
    show (if k < 0 then _ else _) = _
    rw [if_neg (by omega)]
  unfold cutV
  rw [e, HT.sIx_none, List.drop_zero, Nat.sub_zero]
  by_cases hk : k.toNat ≤ xs.length
  · rw [Nat.min_eq_left hk]
  · rw [Nat.min_eq_right (by omega), List.take_length, List.take_of_length_le (by omega)]
section
variable {P : Program} {w : World} {K : PySem.W.Frag} {mg : Str → Option Value} {base : Heap}
theorem ok_law_shop (T : Tx K mg) : Dn P w K mg base 5 (He.ga K "_law_shop") ["_law_spec_here"] (sp_law_shop K) := by
  refine dn_of T.F_law_shop sc_law_shop (fun _ _ _ _ _ _ us hl => match us, hl with | [_], _ => rfl) (fun vs H Q E h => ?_) (fun cdv A outer s H vs Q E hr h => ?_)
  · obtain ⟨_, _, _, rfl, _⟩ := h
    rfl
  · obtain ⟨t, src, S, rfl, ⟨ld, ll, as, h1, _, _, h2, pa, h3⟩, O, k⟩ := h
    refine ⟨_, (pss_one (ps_ret (pk T.m_Shop (ok_Shop_init T) hr rfl T.g_Shop (pa_cons (pe_lc (own := [("_law_first", 1), ("_law_step", 2)]) (g := (gTup K 2 (gCons (gName 1) (gCons (gName 2) gNil)))) rfl sc_law_shop.nd (pi_list (pe_ix ix_tup (pv 0) pe_int (fun _ _ => rfl))) (blkOk_by (own := [("_law_first", 1), ("_law_step", 2)]) (N := ["_law_spec_here", "_law_first", "_law_step"]) (sc := (defScope s_law_shop)) (by decide +kernel)) (fun _ _ _ _ _ => (pg_tup (by rfl) (pgs_cons (pg_name (i := 1) sc_law_shop.nd rfl (.inl rfl)) (pgs_cons (pg_name (i := 2) sc_law_shop.nd rfl (.inl rfl)) pgs_nil)))) (fun _ _ _ _ _ => pts_nil) (fun _ _ _ _ _ => (pk T.m_Drum (ok_Drum_init T) hr rfl T.g_Drum (pa_cons (pv 1) (pa_cons (pv 2) pa_nil))))) (pa_cons (pe_callTy call_list_of (by rfl) T.n_list (by decide +kernel) (pa_cons (pe_ix ix_tup (pv 0) pe_int (fun _ _ => rfl)) pa_nil)) pa_nil))))), ?_⟩
    refine ⟨_, rfl, t, _, 0, _, rfl, rfl, SqT.of h1, rfl, ld, rfl, ⟨_, SqL.of h2⟩, fun E hE => ?_⟩
    have la := Paired.length pa
    have := O.d2
    refine lc_it walk_listF (fun i H' => Same H H' ∧ ∃ bs, H' E = some (.lst (bs.map V.ref)) ∧ Paired (fun a (d : Int × Int) => DrumAt K H' a d.1 d.2) bs (S.ds.take i) ∧ bs.length = i) ⟨Same.new hE, [], upd_same, .nil, rfl⟩ (fun i H' _ q => SqL.of (q.1 _ _ h2)) ?_ ?_
    · rintro i x H1 H2 hi ⟨s1, bs, hb, pb, lb⟩ ⟨rfl, a, e2, rfl⟩
      obtain ⟨d, e3, dr⟩ := paired_get pa e2
      have R := O.dr d (List.mem_of_getElem? e3)
      refine ⟨a, _, rfl, SqT.of (s1 _ _ dr), rfl, _, _, rfl, _, _, rfl, rfl, rfl, ?_⟩
      refine ⟨_, rfl, _, rfl, fun x dx hx hdx nex => ⟨x, dx, d.1, d.2, rfl, R, upd_same, rfl, ?_⟩⟩
      have hx2 : upd H2 dx (.own x) x = none := by rw [upd_ne (Ne.symm nex)]; exact hx
      have s3 : Same H2 (upd (upd (upd H2 dx (.own x)) x (.ins (He.ga K "Drum") dx [])) x (.ins (He.ga K "Drum") dx (fsD d.1 d.2))) := by
        rw [upd_upd]
        exact (Same.new hdx).trans (Same.new hx2)
      have e4 : DrumAt K (upd (upd (upd H2 dx (.own x)) x (.ins (He.ga K "Drum") dx [])) x (.ins (He.ga K "Drum") dx (fsD d.1 d.2))) x d.1 d.2 := ⟨dx, upd_same⟩
      generalize upd (upd (upd H2 dx (.own x)) x (.ins (He.ga K "Drum") dx [])) x (.ins (He.ga K "Drum") dx (fsD d.1 d.2)) = H3 at s3 e4 ⊢
      have hb3 := s3 _ _ hb
      refine ⟨_, hb3, by rw [List.length_map, lb]; exact small1000 (by omega), fun b o e => ?_, bs ++ [x], by rw [upd_same, List.map_append]; rfl, ?_, by rw [List.length_append, lb]; rfl⟩
      · rw [upd_ne (ne_of_none e hE)]
        exact s3 _ _ (s1 _ _ e)
      · have dk : ∀ (a : Addr) (d : Int × Int), DrumAt K H3 a d.1 d.2 → DrumAt K (upd H3 E (.lst (bs.map V.ref ++ [.ref x]))) a d.1 d.2 := fun a d ⟨z, e⟩ => ⟨z, by rw [upd_ne (ne_of e hb3 fun z => nomatch z)]; exact e⟩
        rw [List.take_add_one, e3]
        exact paired_app (paired_imp (fun a d ⟨z, e⟩ => dk a d ⟨z, s3 _ _ e⟩) pb) (.cons (dk _ _ e4) .nil)
    · rintro H1 ⟨s1, bs, hb, pb, lb⟩
      rw [la, List.take_length] at pb
      have s1 := s1
      refine ⟨_, rfl, t, _, 1, _, rfl, rfl, SqT.of (s1 _ _ h1), rfl, ll, _, rfl, .inl (SqL.of (s1 _ _ h3)), fun m hm => ?_⟩
      have s2 : Same H1 (upd H1 m (.lst (S.ls.map V.int))) := Same.new hm
      have hm2 : upd H1 m (.lst (S.ls.map V.int)) m = some (.lst (S.ls.map V.int)) := upd_same
      generalize upd H1 m (.lst (S.ls.map V.int)) = H2 at s2 hm2 ⊢
      intro x dx hx hdx nex
      have hx2 : upd H2 dx (.own x) x = none := by rw [upd_ne (Ne.symm nex)]; exact hx
      have s3 : Same H2 (upd (upd H2 dx (.own x)) x (.ins (He.ga K "Shop") dx [])) := (Same.new hdx).trans (Same.new hx2)
      have hx3 : upd (upd H2 dx (.own x)) x (.ins (He.ga K "Shop") dx []) x = some (.ins (He.ga K "Shop") dx []) := upd_same
      generalize upd (upd H2 dx (.own x)) x (.ins (He.ga K "Shop") dx []) = H3 at s3 hx3 ⊢
      have s4 := (s1.trans s2).trans s3
      refine ⟨x, dx, E, m, bs, S, rfl, hx3, s3 _ _ (s2 _ _ hb), paired_imp (fun a d ⟨z, e⟩ => ⟨z, s3 _ _ (s2 _ _ e)⟩) pb, s3 _ _ hm2, O, fun H4 ll' k4 hll sl => ⟨rfl, k H4 x ll' (fun b o e => k4 b o (ne_of_none e ((s1.trans s2).free hx)) (s4 _ _ e)) (s4.free hll) sl⟩⟩
theorem ok_law_plies (T : Tx K mg) : Dn P w K mg base 3 (He.ga K "_law_plies") ["_law_source", "_law_spec_here"] (sp_law_plies K) := by
  refine dn_of T.F_law_plies sc_law_plies (fun _ _ _ _ _ _ us hl => match us, hl with | [_, _], _ => rfl) (fun vs H Q E h => ?_) (fun cdv A outer s H vs Q E hr h => ?_)
  · obtain ⟨_, _, _, _, rfl, _⟩ := h
    rfl
  · obtain ⟨p, t, n, S, rfl, hs, hn, ⟨ld, ll, as, h1, nd, nl, h2, pa, h3⟩, O, k⟩ := h
    refine ⟨_, (pss_cons (ps_set (i := 2) sc_law_plies.nd rfl (.inl rfl) (pe_slice sl_list (pc (ok_law_mixed T) hr rfl T.g_law_mixed (pa_cons (pv 0) (pa_cons (pe_listRg rfl (by rfl) T.n_list (prg_1 (by rfl) T.n_range (pe_callB call_len_seq (by rfl) T.n_len PySem.boot_len (pa_cons (pe_ix ix_tup (pv 1) pe_int (fun _ _ => rfl)) pa_nil)))) pa_nil))) po_none (po_some (pe_op op_add pe_int (pc (ok_law_next T) hr rfl T.g_law_next (pa_cons (pv 0) (pa_cons pe_int pa_nil))))))) (pss_one (ps_ret (pe_lc (own := [("_law_k", 3)]) (g := (gName 3)) rfl sc_law_plies.nd (pi_list (pv 2)) (blkOk_by (own := [("_law_k", 3)]) (N := ["_law_source", "_law_spec_here", "_law_strips", "_law_k"]) (sc := (defScope s_law_plies)) (by decide +kernel)) (fun _ _ _ _ _ => (pg_name (i := 3) sc_law_plies.nd rfl (.inl rfl))) (fun _ _ _ _ _ => pts_nil) (fun _ _ _ _ _ => (pe_tup (pa_cons (pv 3) (pa_cons (pc (ok_law_one T) hr rfl T.g_law_one (pa_cons (pv 0) (pa_cons (pe_lst (pa_cons pe_str (pa_cons pe_str pa_nil))) pa_nil))) (pa_cons (pc (ok_law_one T) hr rfl T.g_law_one (pa_cons (pv 0) (pa_cons (pe_lst (pa_cons pe_str (pa_cons pe_str pa_nil))) pa_nil))) pa_nil))))))))), ?_⟩
    have := O.l1; have := O.l2
    refine ⟨_, rfl, _, rfl, t, _, 1, _, rfl, rfl, SqT.of h1, rfl, ll, _, rfl, .inl (SqL.of h3), _, rfl, RgOk.of_le (by omega) (by rw [List.length_map]; omega) (by omega) (by rw [List.length_map]; omega), fun q hq => ?_⟩
    have s1 : Same H (upd H q (.lst (rgV 0 ((S.ls.map V.int).length)))) := Same.new hq
    have q1 : upd H q (.lst (rgV 0 ((S.ls.map V.int).length))) q = some (.lst (((List.range S.ls.length).map fun (i : Nat) => 0 + (i : Int)).map V.int)) := by
      rw [upd_same, List.map_map, List.length_map]
      show some (HO.lst (rgV 0 (S.ls.length : Int))) = _
      unfold rgV
      rw [show ((S.ls.length : Int) - 0).toNat = S.ls.length by omega]
      rfl
    generalize upd H q (.lst (rgV 0 ((S.ls.map V.int).length))) = H1 at s1 q1 ⊢
    have hs1 := hs.same s1
    refine ⟨p, q, n, _, rfl, hs1, by rw [List.length_map, List.length_range]; omega, SqL.of q1, by rw [List.length_map, List.length_range]; omega, fun H2 m ms np2 hm0 hm pm hs2 => ?_⟩
    have lm := pm.length_eq
    rw [List.length_map, List.length_range] at lm hs2
    refine ⟨_, rfl, p, n + S.ls.length, 3, rfl, hs2, by omega, by omega, by omega, fun H3 r np3 hs3 r0 r1 => ?_⟩
    have ne2 : m ≠ p := fun z => hs1.ne (by rw [← z]; exact hm0)
    have hm3 := np3 _ _ ne2 hm
    refine ⟨_, _, rfl, rfl, 1 + r, rfl, m, _, rfl, SqL.of hm3, fun z hz => ?_⟩
    have nez : z ≠ p := fun e => hs3.ne (by rw [← e]; exact hz)
    have s4 : Same H3 (upd H3 z (.lst (cutV (ms.map V.int) none (some (1 + r))))) := Same.new hz
    have hz4 : upd H3 z (.lst (cutV (ms.map V.int) none (some (1 + r)))) z = some (.lst ((ms.take (1 + r).toNat).map V.int)) := by rw [upd_same, cutTo _ _ (by omega), List.map_take]
    generalize upd H3 z (.lst (cutV (ms.map V.int) none (some (1 + r)))) = H4 at s4 hz4 ⊢
    have hs4 := hs3.same s4
    have np4 : NP p H H4 := (((NP.of s1).trans np2).trans np3).same s4
    have lz : (ms.take (1 + r).toNat).length ≤ 3 ∧ 1 ≤ (ms.take (1 + r).toNat).length := by
      rw [List.length_take]
      omega
    have sub : ∀ x ∈ ms.take (1 + r).toNat, 0 ≤ x ∧ x < S.ls.length := fun x hx => by
      obtain ⟨i, hi, e⟩ := List.mem_map.mp (pm.mem_iff.mp (List.mem_of_mem_take hx))
      have := List.mem_range.mp hi
      omega
    have nd : (ms.take (1 + r).toNat).Nodup := by
      refine List.Nodup.sublist (List.take_sublist _ _) ?_
      refine pm.nodup_iff.mpr ?_
      refine List.Pairwise.map _ (fun a b h => ?_) (List.nodup_range (n := S.ls.length))
      omega
    generalize ms.take (1 + r).toNat = zs at hz4 lz sub nd
    refine ⟨_, rfl, z, rfl, ⟨_, SqL.of hz4⟩, fun E hE => ?_⟩
    refine lc_it walk_listF (fun i H' => NP p H4 H' ∧ SrcAt H' p (n + 7 + 2 * i) ∧ ∃ (as : List Addr) (ps : List Ply), H' E = some (.lst (as.map V.ref)) ∧ TupsAt H' as (ps.map Ply.key) ∧ ps.map Ply.s = zs.take i ∧ (∀ y ∈ ps, (y.e = "head" ∨ y.e = "tail") ∧ (y.d = "back" ∨ y.d = "front")) ∧ ps.length = i) ⟨NP.of (Same.new hE), (hs4.same (Same.new hE)).mono (by omega), [], [], upd_same, .nil, rfl, (fun _ h => nomatch h), rfl⟩ (fun i H' _ q => SqL.of (q.1 _ _ nez hz4)) ?_ ?_
    · rintro i x H5 H6 hi ⟨np5, hs5, as, ps, hE5, pa5, e5, ok5, l5⟩ ⟨rfl, y, e2, rfl⟩
      refine ⟨rfl, _, rfl, _, rfl, by show 2 ≤ sizeLine; decide, fun b hb => ?_⟩
      have hi3 : i < 3 := by omega
      have s6 : Same H6 (upd H6 b (.lst [.str "head", .str "tail"])) := Same.new hb
      have hb6 : upd H6 b (.lst [.str "head", .str "tail"]) b = some (.lst [.str "head", .str "tail"]) := upd_same
      have neb : b ≠ p := fun e => hs5.ne (by rw [← e]; exact hb)
      generalize upd H6 b (.lst [.str "head", .str "tail"]) = H7 at s6 hb6 ⊢
      refine ⟨p, b, n + 7 + 2 * i, _, rfl, hs5.same s6, by omega, hb6, neb, by decide, by decide, fun H8 x8 np8 hs8 m8 => ?_⟩
      refine ⟨_, rfl, by show 2 ≤ sizeLine; decide, fun c hc => ?_⟩
      have s9 : Same H8 (upd H8 c (.lst [.str "back", .str "front"])) := Same.new hc
      have hc9 : upd H8 c (.lst [.str "back", .str "front"]) c = some (.lst [.str "back", .str "front"]) := upd_same
      have nec : c ≠ p := fun e => hs8.ne (by rw [← e]; exact hc)
      generalize upd H8 c (.lst [.str "back", .str "front"]) = H9 at s9 hc9 ⊢
      refine ⟨p, c, n + 7 + 2 * i + 1, _, rfl, hs8.same s9, by omega, hc9, nec, by decide, by decide, fun H10 x10 np10 hs10 m10 => ?_⟩
      obtain ⟨u8, e8, o8⟩ : ∃ u : Str, x8 = .str u ∧ (u = "head" ∨ u = "tail") := by
        rcases List.mem_cons.mp m8 with h | h
        · exact ⟨_, h, .inl rfl⟩
        · exact ⟨_, List.mem_singleton.mp h, .inr rfl⟩
      obtain ⟨u10, e10, o10⟩ : ∃ u : Str, x10 = .str u ∧ (u = "back" ∨ u = "front") := by
        rcases List.mem_cons.mp m10 with h | h
        · exact ⟨_, h, .inl rfl⟩
        · exact ⟨_, List.mem_singleton.mp h, .inr rfl⟩
      subst e8
      subst e10
      refine ⟨by show 3 ≤ sizeLine; decide, fun q hq => ?_⟩
      have s11 : Same H10 (upd H10 q (.tup [.int y, .str u8, .str u10])) := Same.new hq
      have hq11 : upd H10 q (.tup [.int y, .str u8, .str u10]) q = some (.tup [.int y, .str u8, .str u10]) := upd_same
      generalize upd H10 q (.tup [.int y, .str u8, .str u10]) = H11 at s11 hq11 ⊢
      have np11 : NP p H6 H11 := ((((NP.of s6).trans np8).same s9).trans np10).same s11
      have neE := hs5.refs hE5
      have hE11 := np11 _ _ neE hE5
      refine ⟨_, hE11, by rw [List.length_map, Paired.length pa5, List.length_map, l5]; exact small1000 (by omega), ?_, ?_, as ++ [q], ps ++ [⟨y, u8, u10⟩], by rw [upd_same, List.map_append]; rfl, ?_, ?_, ?_, by rw [List.length_append, l5]; rfl⟩
      · intro x o nx e
        rw [upd_ne (ne_of_none e hE)]
        exact np11 _ _ nx (np5 _ _ nx e)
      · obtain ⟨a, b, c, q1, q2⟩ := hs10.same s11
        exact ⟨a, b, c, by rw [upd_ne neE.symm]; exact q1, q2.1, q2.2.1, q2.2.2.1, q2.2.2.2.1, by omega⟩
      · rw [List.map_append]
        refine TupsAt.snoc ?_ (TK.lst hE11 _ _ hq11)
        exact TupsAt.tk (TK.lst hE11) (paired_imp (fun a f e => np11 _ _ (hs5.tup e) e) pa5)
      · rw [List.map_append, e5, List.take_add_one, e2]
        rfl
      · intro z hz
        rcases List.mem_append.mp hz with h | h
        · exact ok5 z h
        · rw [List.mem_singleton.mp h]
          exact ⟨o8, o10⟩
    · rintro H5 ⟨np5, hs5, as, ps, hE5, pa5, e5, ok5, l5⟩
      have e5' : ps.map Ply.s = zs := by rw [e5]; exact List.take_length
      refine k H5 E ps (np4.trans np5) (hs5.mono (by omega)) ⟨as, hE5, pa5⟩ ⟨by omega, by omega, fun y hy => ?_, by rw [e5']; exact nd⟩ (np4.old hs4.ne hE)
      have hm := sub y.s (by rw [← e5']; exact List.mem_map_of_mem hy)
      exact ⟨hm.1, hm.2, (ok5 y hy).1, (ok5 y hy).2⟩
theorem DeedAt.npS {H H' : Hp} {p a : Addr} {n : Nat} {d : Deed} (k : NP p H H') (h : SrcAt H p n) (e : DeedAt H a d) : DeedAt H' a d := by
  cases d with
  | opn b => exact k _ _ (h.tup e) e
  | roll d ps b =>
    obtain ⟨l, h1, as, h2, h3⟩ := e
    exact ⟨l, k _ _ (h.tup h1) h1, as, k _ _ (h.refs h2) h2, paired_imp (fun a f e => k _ _ (h.tup e) e) h3⟩
theorem RowAt.npS {H H' : Hp} {p l : Addr} {n : Nat} {row : List Deed} (k : NP p H H') (h : SrcAt H p n) (e : RowAt H l row) : RowAt H' l row := by
  obtain ⟨as, h1, h2⟩ := e
  exact ⟨as, k _ _ (h.refs h1) h1, paired_imp (fun a d e => e.npS k h) h2⟩
/-- a deed whose plies are no list at E -/
def DeedN (E : Addr) (H : Hp) (a : Addr) : Deed → Prop
  | .opn b => H a = some (.tup [.str "open", .int b])
  | .roll d ps b => ∃ l, H a = some (.tup [.str "roll", .int d, .ref l, .int b]) ∧ l ≠ E ∧ PliesAt H l ps
theorem DeedN.at {E : Addr} {H : Hp} {a : Addr} {d : Deed} (e : DeedN E H a d) : DeedAt H a d := by
  cases d with
  | opn b => exact e
  | roll d ps b =>
    obtain ⟨l, h1, _, h2⟩ := e
    exact ⟨l, h1, h2⟩
theorem DeedN.npS {H H' : Hp} {E p a : Addr} {n : Nat} {d : Deed} (k : NP p H H') (h : SrcAt H p n) (e : DeedN E H a d) : DeedN E H' a d := by
  cases d with
  | opn b => exact k _ _ (h.tup e) e
  | roll d ps b =>
    obtain ⟨l, h1, ne, as, h2, h3⟩ := e
    exact ⟨l, k _ _ (h.tup h1) h1, ne, as, k _ _ (h.refs h2) h2, paired_imp (fun a f e => k _ _ (h.tup e) e) h3⟩
theorem DeedN.put {H : Hp} {E a : Addr} {d : Deed} {xs : List V} {o : HO} (hE : H E = some (.lst xs)) (e : DeedN E H a d) : DeedN E (upd H E o) a d := by
  cases d with
  | opn b => exact TK.lst hE _ _ e
  | roll d ps b =>
    obtain ⟨l, h1, ne, as, h2, h3⟩ := e
    exact ⟨l, TK.lst hE _ _ h1, ne, as, by rw [upd_ne ne]; exact h2, TupsAt.tk (TK.lst hE) h3⟩
theorem ok_law_row (T : Tx K mg) : Dn P w K mg base 4 (He.ga K "_law_row") ["_law_source", "_law_spec_here", "_law_most"] (sp_law_row K) := by
  refine dn_of T.F_law_row sc_law_row (fun _ _ _ _ _ _ us hl => match us, hl with | [_, _, _], _ => rfl) (fun vs H Q E h => ?_) (fun cdv A outer s H vs Q E hr h => ?_)
  · obtain ⟨_, _, _, _, rfl, _⟩ := h
    rfl
  · obtain ⟨p, t, n, S, rfl, hs, hn, hS, O, k⟩ := h
    refine ⟨_, (pss_cons (ps_set (i := 3) sc_law_row.nd rfl (.inl rfl) (pe_lst pa_nil)) (pss_cons (ps_for PassesOwn.never rfl (pi_range1 (by rfl) T.n_range (pa_cons (pc (ok_law_next T) hr rfl T.g_law_next (pa_cons (pv 0) (pa_cons (pe_op op_add (pv 2) pe_int) pa_nil))) pa_nil)) (pg_name (i := 4) sc_law_row.nd rfl (.inl rfl)) (pss_cons (ps_set (i := 5) sc_law_row.nd rfl (.inl rfl) (pc (ok_law_one T) hr rfl T.g_law_one (pa_cons (pv 0) (pa_cons (pe_lst (pa_cons pe_int (pa_cons pe_int (pa_cons pe_int (pa_cons pe_int (pa_cons pe_int (pa_cons (pe_op op_pow pe_int pe_int) pa_nil))))))) pa_nil)))) (pss_one (ps_if (pt_cmpR op_eq (pc (ok_law_next T) hr rfl T.g_law_next (pa_cons (pv 0) (pa_cons pe_int pa_nil))) pe_int (nomark _)) (pss_one (ps_expr (pe_bm PySem.F.plainAttrs_list PySem.F.slot_list_append PySem.F.type_list_append mt_append (pv 3) (pa_cons (pe_tup (pa_cons pe_str (pa_cons (pv 5) pa_nil))) pa_nil)))) (pss_one (ps_expr (pe_bm PySem.F.plainAttrs_list PySem.F.slot_list_append PySem.F.type_list_append mt_append (pv 3) (pa_cons (pe_tup (pa_cons pe_str (pa_cons (pc (ok_law_next T) hr rfl T.g_law_next (pa_cons (pv 0) (pa_cons (pe_callB call_len_seq (by rfl) T.n_len PySem.boot_len (pa_cons (pe_ix ix_tup (pv 1) pe_int (fun _ _ => rfl)) pa_nil)) pa_nil))) (pa_cons (pc (ok_law_plies T) hr rfl T.g_law_plies (pa_cons (pv 0) (pa_cons (pv 1) pa_nil))) (pa_cons (pv 5) pa_nil))))) pa_nil)))))))) (pss_one (ps_ret (pv 3))))), ?_⟩
    have := O.d1; have := O.d2
    refine ⟨by show 0 ≤ sizeLine; decide, fun E hE => ?_⟩
    have s1 : Same H (upd H E (.lst [])) := Same.new hE
    have hE1 : upd H E (.lst []) E = some (.lst []) := upd_same
    generalize upd H E (.lst []) = H1 at s1 hE1 ⊢
    refine ⟨_, rfl, _, rfl, _, _, rfl, rfl, p, n, 4, rfl, hs.same s1, by omega, by omega, by omega, fun H2 c np2 hs2 c0 c1 => ?_⟩
    have np2' : NP p H H2 := (NP.of s1).trans np2
    have neE : E ≠ p := fun e => hs.ne (by rw [← e]; exact hE)
    refine ⟨c, rfl, by omega, by omega, ?_⟩
    refine for_it walk_range (fun i σ H' => (∃ x y, σ = [some (.ref p), some (.ref t), some (.int 3), some (.ref E), x, y]) ∧ NP p H H' ∧ SrcAt H' p (n + 1 + 19 * i) ∧ ∃ (as : List Addr) (row : List Deed), H' E = some (.lst (as.map V.ref)) ∧ Paired (DeedN E H') as row ∧ row.length = i ∧ ∀ d ∈ row, DeedOk S d ∧ d.b ≤ 10 ^ 20) ⟨⟨_, _, rfl⟩, np2', hs2.mono (by omega), [], [], np2 _ _ neE hE1, .nil, rfl, fun _ h => nomatch h⟩ (fun _ _ _ _ _ => trivial) ?_ ?_
    · rintro i x σ H3 H4 hi ⟨⟨x1, x2, rfl⟩, np3, hs3, as, row, hE3, pa3, l3, ok3⟩ ⟨rfl, rfl⟩
      have hi : i < c.toNat := hi
      have fin : ∀ (H5 H6 : Hp) (q : Addr) (d : Deed) (u v : Option V), NP p H4 H5 → SrcAt H5 p (n + 1 + 19 * (i + 1)) → H5 E = some (.lst (as.map V.ref)) → DeedN E H5 q d → DeedOk S d → d.b ≤ 10 ^ 20 → H6 = upd H5 E (.lst (as.map V.ref ++ [.ref q])) →
          (∃ x y, ([some (.ref p), some (.ref t), some (.int 3), some (.ref E), u, v] : L2.St) = [some (.ref p), some (.ref t), some (.int 3), some (.ref E), x, y]) ∧ NP p H H6 ∧ SrcAt H6 p (n + 1 + 19 * (i + 1)) ∧ ∃ (as : List Addr) (row : List Deed), H6 E = some (.lst (as.map V.ref)) ∧ Paired (DeedN E H6) as row ∧ row.length = i + 1 ∧ ∀ d ∈ row, DeedOk S d ∧ d.b ≤ 10 ^ 20 := by
        rintro H5 H6 q d u v np hs5 hE5 hd od bd rfl
        refine ⟨⟨_, _, rfl⟩, fun x o nx e => ?_, ?_, as ++ [q], row ++ [d], by rw [upd_same, List.map_append]; rfl, paired_app (paired_imp (fun a d e => (e.npS np hs3).put hE5) pa3) (.cons (hd.put hE5) .nil), by rw [List.length_append, l3]; rfl, fun z hz => ?_⟩
        · rw [upd_ne (ne_of_none e hE)]
          exact np _ _ nx (np3 _ _ nx e)
        · obtain ⟨a, b, c, q1, q2⟩ := hs5
          exact ⟨a, b, c, by rw [upd_ne neE.symm]; exact q1, q2⟩
        · rcases List.mem_append.mp hz with h | h
          · exact ok3 z h
          · rw [List.mem_singleton.mp h]
            exact ⟨od, bd⟩
      refine ⟨_, rfl, _, _, rfl, rfl, ⟨by decide, by decide⟩, by show 6 ≤ sizeLine; decide, fun b hb => ?_⟩
      have s5 : Same H4 (upd H4 b (.lst [.int 1, .int 1, .int 2, .int 3, .int 0, .int (10 ^ (20 : Int).toNat)])) := Same.new hb
      have hb5 : upd H4 b (.lst [.int 1, .int 1, .int 2, .int 3, .int 0, .int (10 ^ (20 : Int).toNat)]) b = some (.lst [.int 1, .int 1, .int 2, .int 3, .int 0, .int (10 ^ (20 : Int).toNat)]) := upd_same
      have neb : b ≠ p := fun e => hs3.ne (by rw [← e]; exact hb)
      generalize upd H4 b (.lst [.int 1, .int 1, .int 2, .int 3, .int 0, .int (10 ^ (20 : Int).toNat)]) = H5 at s5 hb5 ⊢
      refine ⟨p, b, n + 1 + 19 * i, _, rfl, hs3.same s5, by omega, hb5, neb, by decide, by decide, fun H6 x6 np6 hs6 m6 => ?_⟩
      obtain ⟨be, ex, be0, be1⟩ : ∃ be : Int, x6 = .int be ∧ 0 ≤ be ∧ be ≤ 10 ^ 20 := by
        simp only [List.mem_cons, List.not_mem_nil, or_false] at m6
        rcases m6 with h | h | h | h | h | h
        · exact ⟨_, h, by decide, by decide⟩
        · exact ⟨_, h, by decide, by decide⟩
        · exact ⟨_, h, by decide, by decide⟩
        · exact ⟨_, h, by decide, by decide⟩
        · exact ⟨_, h, by decide, by decide⟩
        · exact ⟨_, h, by decide, by decide⟩
      subst ex
      have np6' : NP p H4 H6 := (NP.of s5).trans np6
      refine ⟨_, rfl, p, n + 1 + 19 * i + 1, 4, rfl, hs6, by omega, by omega, by omega, fun H7 r np7 hs7 r0 r1 => ?_⟩
      have np7' := np6'.trans np7
      refine ⟨rfl, _, rfl, ifd (fun _ => ?_) fun _ => ?_⟩
      · refine ⟨_, rfl, .inl ⟨rfl, _, SqL.of (np7' _ _ neE hE3)⟩, _, rfl, by show 2 ≤ sizeLine; decide, fun q hq => ?_⟩
        have s8 : Same H7 (upd H7 q (.tup [.str "open", .int be])) := Same.new hq
        have hq8 : upd H7 q (.tup [.str "open", .int be]) q = some (.tup [.str "open", .int be]) := upd_same
        generalize upd H7 q (.tup [.str "open", .int be]) = H8 at s8 hq8 ⊢
        have hE8 := s8 _ _ (np7' _ _ neE hE3)
        exact ⟨E, _, _, rfl, rfl, hE8, by rw [List.length_map, Paired.length pa3, l3]; exact small1000 (by omega), fin H8 _ q (.opn be) _ _ (np7'.same s8) ((hs7.same s8).mono (by omega)) hE8 hq8 be0 be1 rfl⟩
      · refine ⟨_, rfl, .inl ⟨rfl, _, SqL.of (np7' _ _ neE hE3)⟩, _, rfl, _, rfl, ?_⟩
        have hS7 := hS.np (np3.trans np7') hs
        obtain ⟨ld, ll, ads, t1, nd, nl, t2, pt, t3⟩ := id hS7
        have lds := Paired.length pt
        refine ⟨t, _, 0, _, rfl, rfl, SqT.of t1, rfl, ld, _, rfl, .inl (SqL.of t2), p, n + 1 + 19 * i + 2, _, rfl, hs7, by omega, by rw [List.length_map]; omega, by rw [List.length_map]; omega, fun H8 dd np8 hs8 d0 d1 => ?_⟩
        rw [List.length_map, lds] at d1
        refine ⟨_, rfl, _, rfl, p, t, n + 1 + 19 * i + 3, S, rfl, hs8, by omega, hS7.np np8 hs7, O, fun H9 l ps np9 hs9 hl op l0 => ?_⟩
        refine ⟨_, rfl, by show 4 ≤ sizeLine; decide, fun q hq => ?_⟩
        have s10 : Same H9 (upd H9 q (.tup [.str "roll", .int dd, .ref l, .int be])) := Same.new hq
        have hq10 : upd H9 q (.tup [.str "roll", .int dd, .ref l, .int be]) q = some (.tup [.str "roll", .int dd, .ref l, .int be]) := upd_same
        generalize upd H9 q (.tup [.str "roll", .int dd, .ref l, .int be]) = H10 at s10 hq10 ⊢
        have np10 := ((np7'.trans np8).trans np9).same s10
        have hE10 := np10 _ _ neE hE3
        have hE8 := (np7'.trans np8) _ _ neE hE3
        exact ⟨E, _, _, rfl, rfl, hE10, by rw [List.length_map, Paired.length pa3, l3]; exact small1000 (by omega), fin H10 _ q (.roll dd ps be) _ _ np10 ((hs9.same s10).mono (by omega)) hE10 ⟨l, hq10, (fun z => by rw [z, hE8] at l0; cases l0), hl.kn (Kn.same s10)⟩ ⟨be0, d0, d1, op⟩ be1 rfl⟩
    · rintro σ H3 ⟨⟨x1, x2, rfl⟩, np3, hs3, as, row, hE3, pa3, l3, ok3⟩
      exact ⟨_, rfl, k H3 E row np3 (hs3.mono (by omega)) ⟨as, hE3, paired_imp (fun a d e => e.at) pa3⟩ ⟨by omega, ok3⟩ hE⟩
end
end Wm
end
section
set_option Elab.async false
set_option linter.all false
set_option maxRecDepth 100000
set_option maxHeartbeats 4000000
/-! Sets of tuples of whole numbers and texts: the search, adding. -/
namespace Wm
open PySem PySem.Spec PyProof.Rows L2
set_option autoImplicit false
/-- the tuple at b bears the key k -/
abbrev Bears (P : Program) (w : World) (h : Heap) (k : List Key) (b : Addr) : Prop := IsTupleKey (mixKind P w) h k b
abbrev fH (P : Program) (w : World) (k : List Key) : Int := tupleKeyHash (mixKind P w) k
abbrev Row1 : Type := Addr × List Key
section
variable {P : Program} {w : World} {A : Around} {E : Value → Shared → Prop} {s : Shared}
def Small1 (v : Value) : Prop := (∃ i t, v = Value.int i t) ∨ ∃ x t, v = Value.str x t
theorem small_items {k : List Key} {vs : List Value} (h : ItemsAre (mixKind P w) k vs) : ∀ v ∈ vs, Small1 v := by
  induction h with
  | nil => exact fun v hv => nomatch hv
  | @cons c u cs us h1 _ ih =>
    rintro v (_ | ⟨_, hv⟩)
    · rcases keyIs_shape h1 with ⟨i, t, _, e⟩ | ⟨x, t, _, e⟩
      · exact .inl ⟨i, t, e⟩
      · exact .inr ⟨x, t, e⟩
    · exact ih v hv
theorem small_noClass {v : Value} (h : Small1 v) (n : Nat) : ofAClassStatement n v = pure false := by
  rcases h with ⟨i, t, rfl⟩ | ⟨x, t, rfl⟩ <;> cases n <;> rfl
theorem small_byVal {v : Value} (h : Small1 v) (n : Nat) : ∃ b, hashByValue n v = pure b := by
  rcases h with ⟨i, t, rfl⟩ | ⟨x, t, rfl⟩
  · exact ⟨true, by cases n <;> rfl⟩
  · exact ⟨false, by cases n <;> rfl⟩
theorem bears_noClass {k : List Key} {b : Addr} {Q : Bool → Shared → Prop} (hk : Bears P w s.heap k b) (q : Q false s) : wpAny (model P w) A (ofAClassStatement 8 (.ref b)) Q E s := by
  obtain ⟨o, its, n, ho, hc, hd, hi⟩ := id hk
  have all := small_items hi
  unfold ofAClassStatement
  refine wpAny_bind (wpAny_typeOf hk.typeIs ?_)
  simp only [show (("tuple" : String) == "tuple") = true by decide, if_true]
  refine wpAny_bind (wpAny_pure ?_)
  simp only [Bool.not_true, Bool.false_eq_true, if_false]
  refine wpAny_bind (wpAny_seqItems ho hd ?_)
  refine wpAny_bind ?_
  show wpAny _ _ (forIn its _ _) _ _ s
  rw [← Array.forIn_toList]
  refine wpAny_forIn_list _ (fun l r z => (r.1 = none ∧ z = s) ∧ ∀ v ∈ l, Small1 v) _ ?_ ?_ _ _ ⟨⟨rfl, rfl⟩, all⟩
  · rintro v l r z ⟨⟨e1, rfl⟩, al⟩
    rw [small_noClass (al v (.head _))]
    refine wpAny_bind (wpAny_pure ?_)
    simp only [Bool.false_eq_true, if_false]
    exact wpAny_pure ⟨⟨rfl, rfl⟩, fun u hu => al u (.tail _ hu)⟩
  · rintro ⟨r1, r2⟩ z ⟨⟨e1, rfl⟩, _⟩
    have e1 : r1 = none := e1
    subst e1
    exact wpAny_pure q
theorem bears_byVal {k : List Key} {b : Addr} {Q : Bool → Shared → Prop} (hk : Bears P w s.heap k b) (q : ∀ r, Q r s) : wpAny (model P w) A (hashByValue 8 (.ref b)) Q E s := by
  obtain ⟨o, its, n, ho, hc, hd, hi⟩ := id hk
  have all := small_items hi
  unfold hashByValue
  refine wpAny_bind (wpAny_specialOf hk.typeIs F.slot_tuple_hash.lookup ?_)
  show wpAny _ _ (seqItems? (.ref b) >>= _) _ _ s
  refine wpAny_bind (wpAny_seqItems ho hd ?_)
  refine wpAny_bind ?_
  show wpAny _ _ (forIn its _ _) _ _ s
  rw [← Array.forIn_toList]
  refine wpAny_forIn_list _ (fun l r z => z = s ∧ ∀ v ∈ l, Small1 v) _ ?_ ?_ _ _ ⟨rfl, all⟩
  · rintro v l r z ⟨rfl, al⟩
    obtain ⟨d, hd⟩ := small_byVal (al v (.head _)) 7
    rw [hd]
    refine wpAny_bind (wpAny_pure ?_)
    cases d with
    | true =>
      simp only [Bool.not_true, Bool.false_eq_true, if_false]
      exact wpAny_pure ⟨rfl, fun u hu => al u (.tail _ hu)⟩
    | false =>
      simp only [Bool.not_false, if_true]
      refine wpAny_pure ?_
      exact wpAny_pure (q _)
  · rintro ⟨r1, r2⟩ z ⟨rfl, _⟩
    cases r1 with
    | none => exact wpAny_pure (q _)
    | some r => exact wpAny_pure (q _)
/-- no search among such tuples is seen -/
theorem bears_unseen {k : List Key} {b : Addr} {Q : Bool → Shared → Prop} (hk : Bears P w s.heap k b) {ys : List Value} (hy : ∀ y ∈ ys, ∃ c k', y = Value.ref c ∧ Bears P w s.heap k' c) (q : Q false s) :
    wpAny (model P w) A (searchCouldBeSeen (.ref b) ys) Q E s := by
  unfold searchCouldBeSeen
  refine wpAny_bind ?_
  refine wpAny_forIn_list _ (fun l r z => (r.1 = none ∧ z = s) ∧ ∀ y ∈ l, ∃ c k', y = Value.ref c ∧ Bears P w s.heap k' c) _ ?_ ?_ _ _ ⟨⟨rfl, rfl⟩, hy⟩
  · rintro v l r z ⟨⟨e1, rfl⟩, al⟩
    obtain ⟨c, k', rfl, hc⟩ := al v (.head _)
    have al' : ∀ y ∈ l, ∃ c k', y = Value.ref c ∧ Bears P w z.heap k' c := fun y h => al y (.tail _ h)
    by_cases hv : (b == c || (carriedByValue (.ref b) && carriedByValue (.ref c))) = true
    · exact wp_if_pos hv (wpAny_pure ⟨⟨rfl, rfl⟩, al'⟩)
    · refine wp_if_neg hv (wpAny_bind (wpAny_eqIsQuiet_tuple hk ?_))
      simp only [Bool.not_true, Bool.false_eq_true, if_false]
      refine wpAny_bind (wpAny_eqIsQuiet_tuple hc ?_)
      simp only [Bool.not_true, Bool.false_eq_true, if_false]
      refine wpAny_bind (bears_noClass hk ?_)
      simp only [Bool.false_eq_true, if_false]
      refine wpAny_bind (bears_noClass hc ?_)
      simp only [Bool.false_eq_true, if_false]
      exact wpAny_pure ⟨⟨rfl, rfl⟩, al'⟩
  · rintro ⟨r1, r2⟩ z ⟨⟨e1, rfl⟩, _⟩
    have e1 : r1 = none := e1
    subst e1
    exact wpAny_pure q
/-! ### a set with these rows -/
def entF (P : Program) (w : World) (p : Row1) : Int × Value := (fH P w p.2, Value.ref p.1)
structure SF (P : Program) (w : World) (h : Heap) (a : Addr) (L : List Row1) (es : Array (Int × Value)) (ep : Nat) (t : SetTable) : Prop where
  obj : ∃ o, (h.get? a = some o ∧ o.ExactSet) ∧ o.data = .set es ep t
  ent : es.toList = L.map (entF P w)
  tab : TabOk t (L.map fun r => fH P w r.2)
  keys : (L.map Prod.snd).Nodup
  each : ∀ r ∈ L, Bears P w h r.2 r.1
  led : w.params.followText "set-order" = true ∨ t.led = true
  roomy : 5 * L.length < 3 * t.mask
  small : L.length ≤ 60
variable {a : Addr} {L : List Row1} {es : Array (Int × Value)} {ep : Nat} {t : SetTable}
theorem SF.esz (R : SF P w s.heap a L es ep t) : es.size = L.length := by
  have := congrArg List.length R.ent
  simpa using this
theorem SF.psz (R : SF P w s.heap a L es ep t) : t.place.size = L.length := by
  have := R.tab.sz
  rwa [List.length_map] at this
theorem fits_of {n : Nat} (h1 : t.place.size = n) (h2 : t.dummies = #[]) (h3 : n ≤ t.mask) : t.fits n = true := by
  unfold SetTable.fits SetTable.fill
  rw [h1, h2]
  simpa using h3
theorem SF.fit (R : SF P w s.heap a L es ep t) : t.fits es.size = true := by
  have h := R.roomy
  rw [R.esz]
  exact fits_of R.psz R.tab.dm (by omega)
theorem SF.get (R : SF P w s.heap a L es ep t) {i : Nat} {r : Row1} (e : L[i]? = some r) : es[i]? = some (fH P w r.2, Value.ref r.1) := by
  have h1 : es.toList[i]? = (L[i]?).map (entF P w) := by rw [R.ent, List.getElem?_map]
  rw [Array.getElem?_toList, e] at h1
  exact h1
theorem SF.odd (R : SF P w s.heap a L es ep t) : ¬ (t.gaveWay = true) := by
  show ¬ ((t.mask % 2 == 0) = true)
  rw [mask_odd R.tab.mok]
  decide
/-- the place probed at the c-th step -/
abbrev prb (t : SetTable) (h : Int) (c : Nat) : SetTable.Probe := nth t.mask (runAt t.mask (SetTable.bits h % (t.mask + 1)) (SetTable.bits h)) c
theorem nth_nd (m : Nat) : ∀ (c : Nat) (p : SetTable.Probe), p.dummy = none → (nth m p c).dummy = none
  | 0, _, h => h
  | c + 1, p, h => nth_nd m c _ (by unfold adv; split <;> exact h)
theorem prb_nd (h : Int) (c : Nat) : (prb t h c).dummy = none := nth_nd _ c _ rfl
theorem prb_add (h : Int) (c q : Nat) : nth t.mask (prb t h c) q = prb t h (c + q) := (nth_add t.mask c _ q).symm
end
end Wm
end
section
set_option Elab.async false
set_option linter.all false
set_option maxRecDepth 100000
set_option maxHeartbeats 4000000
/-! Sets of mixed tuples: the search. -/
namespace Wm
open PySem PySem.Spec PyProof.Rows L2
set_option autoImplicit false
section
variable {P : Program} {w : World} {A : Around} {E : Value → Shared → Prop} {s : Shared}
variable {a : Addr} {L : List Row1} {es : Array (Int × Value)} {ep : Nat} {t : SetTable}
theorem seek (R : SF P w s.heap a L es ep t) {x : Addr} {k : List Key} (hx : Bears P w s.heap k x) (hu : A.units < cLine) {K : Nat} (hK : way t.mask (fH P w k) K ∉ t.place.toList)
    (hb : ∀ d, d < K → way t.mask (fH P w k) d ∈ t.place.toList) (far : K < 10 * SetTable.turns t.mask) {Q : SetFound → Shared → Prop} (qin : k ∈ L.map Prod.snd → Q (.there none) s)
    (qout : k ∉ L.map Prod.snd → Q (.free (way t.mask (fH P w k) K) false) s) : ∀ (f c : Nat) (st : Option SetTable.Probe), st.getD (t.probeStart (fH P w k)) = prb t (fH P w k) c → c ≤ K → K < c + f →
      (∀ (i : Nat) (r : Row1), L[i]? = some r → r.2 = k → ∃ d, (c ≤ d ∧ d < K) ∧ t.place.toList[i]? = some (way t.mask (fH P w k) d)) → wpAny (model P w) A (setSearchFrom a (.ref x) (fH P w k) true f st) Q E s := by
  have hsh : ∀ (i : Nat) (r : Row1), L[i]? = some r → (es[i]?.map (·.1)).getD 0 = fH P w r.2 := fun i r e => by rw [R.get e]; rfl
  obtain ⟨o, ⟨ho, hex⟩, hd⟩ := R.obj
  intro f
  induction f with
  | zero => exact fun c st _ h1 h2 _ => absurd h2 (by omega)
  | succ f ih =>
    intro c st hst hc hf hre
    rw [setSearchFrom_succ]
    refine wpAny_bind (wpAny_setState_of ho hd R.fit ?_)
    refine wp_if_neg R.odd ?_
    have sp := go_spec t R.tab.ris R.tab.dm (fun i => (es[i]?.map (·.1)).getD 0) (fH P w k) (10 * SetTable.turns t.mask) (K - c) (prb t (fH P w k) c) (prb_nd _ c) (by omega)
      (fun q hq => by rw [prb_add]; exact hb _ (by omega)) (by rw [prb_add, Nat.add_sub_cancel' hc]; exact hK)
    simp only [prb_add] at sp
    have goes : t.probe (fun i => (es[i]?.map (·.1)).getD 0) (fH P w k) (st.getD (t.probeStart (fH P w k))) = SetTable.probe.go t (fun i => (es[i]?.map (·.1)).getD 0) (fH P w k) (10 * SetTable.turns t.mask) (prb t (fH P w k) c) := by
      rw [hst]
      rfl
    rw [goes]
    clear goes
    rcases sp with ⟨q, i, hq, hi, hh, hno, hpr⟩ | ⟨hno, hpr⟩
    · rw [hpr]
      have hil : i < L.length := by
        have h1 := (List.getElem?_eq_some_iff.mp hi).1
        have h2 := R.psz
        rw [Array.length_toList] at h1
        omega
      obtain ⟨r, hr⟩ : ∃ r, L[i]? = some r := ⟨_, List.getElem?_eq_getElem hil⟩
      have hrm := List.mem_of_getElem? hr
      have after : wpAny (model P w) A (searchRest a (.ref x) (fH P w k) true f es t (way t.mask (fH P w k) (c + q)) i (prb t (fH P w k) (c + (q + 1)))) Q E s := by
        unfold searchRest
        rw [R.get hr]
        refine wpAny_bind (wpAny_holding (wpAny_eqBool_tuple hu (R.each r hrm) hx ?_))
        refine wpAny_bind (wpAny_setState_of ho hd R.fit ?_)
        by_cases same : r.2 = k
        · refine wp_if_pos (by rw [decide_eq_true same]; rfl) (wpAny_pure (qin ?_))
          exact List.mem_map.mpr ⟨r, hrm, same⟩
        · refine wp_if_neg (by rw [decide_eq_false same]; decide) ?_
          have hlive : t.slot (way t.mask (fH P w k) (c + q)) = .live i := slot_live R.tab.ris hi
          dsimp only
          rw [sameMem]
          simp only [if_true, hlive, R.get hr]
          refine wpAny_bind (wpAny_isSame_ref_self (wpAny_bind (wpAny_pure ?_)))
          simp only [if_true]
          refine wp_if_neg (by rw [decide_eq_false same]; decide) ?_
          refine ih (c + (q + 1)) _ rfl (by omega) (by omega) fun j u hj hu' => ?_
          obtain ⟨d, ⟨d1, d2⟩, d3⟩ := hre j u hj hu'
          have ne1 : ¬ d < c + q := fun lt => hno (d - c) j (by omega) (by rw [Nat.add_sub_cancel' d1]; exact d3) (by rw [← hu']; exact hsh j u hj)
          have ne2 : d ≠ c + q := fun e => by
            rw [e] at d3
            have h1 := slot_live R.tab.ris d3
            rw [hlive] at h1
            injection h1 with h1
            rw [← h1, hr] at hj
            rw [← hu', ← Option.some.inj hj] at same
            exact same rfl
          exact ⟨d, ⟨by omega, d2⟩, d3⟩
      by_cases hl : t.led = true
      · refine wp_if_neg (by rw [hl]; decide) ?_
        exact after
      · refine wp_if_pos (by simpa using hl) ?_
        refine wpAny_bind (bears_unseen hx (fun y hy => ?_) ?_)
        · obtain ⟨e, he, rfl⟩ := List.mem_map.mp hy
          have he := Array.mem_toList_iff.mpr (Array.mem_filter.mp (Array.mem_toList_iff.mp he)).1
          rw [R.ent] at he
          obtain ⟨u, hu1, rfl⟩ := List.mem_map.mp he
          exact ⟨u.1, u.2, rfl, R.each u hu1⟩
        · exact wp_if_neg (by decide) after
    · rw [Nat.add_sub_cancel' hc] at hpr
      rw [hpr]
      refine wpAny_pure (qout fun hm => ?_)
      obtain ⟨r, hr, e⟩ := List.mem_map.mp hm
      obtain ⟨i, hi⟩ := List.mem_iff_getElem?.mp hr
      obtain ⟨d, ⟨d1, d2⟩, d3⟩ := hre i r hi e
      refine hno (d - c) i (by omega) (by rw [Nat.add_sub_cancel' d1]; exact d3) ?_
      rw [← e]
      exact hsh i r hi
end
end Wm
end
section
set_option Elab.async false
set_option linter.all false
set_option maxRecDepth 100000
set_option maxHeartbeats 4000000
/-! Sets of mixed tuples: adding. -/
namespace Wm
open PySem PySem.Spec PyProof.Rows L2
set_option autoImplicit false
/-! plain: rows in a new order -/
theorem pick_map {α β : Type} (f : α → β) (es : Array β) (L : List α) (h : es.toList = L.map f) (l : List Nat) : l.filterMap (fun i => es[i]?) = (l.filterMap fun i => L[i]?).map f := by
  rw [List.map_filterMap]
  refine congrArg (fun g => List.filterMap g l) (funext fun i => ?_)
  rw [← Array.getElem?_toList, h, List.getElem?_map]
theorem pick_all {α : Type} (L : List α) : (List.range L.length).filterMap (fun i => L[i]?) = L := by
  have h : ∀ (M : List α), (List.range L.length).filterMap (fun i => (L ++ M)[i]?) = L := by
    induction L with
    | nil => intro M; rfl
    | cons x L ih =>
      intro M
      rw [List.length_cons, List.range_succ_eq_map, List.filterMap_cons]
      show x :: ((List.range L.length).map Nat.succ).filterMap _ = _
      rw [List.filterMap_map]
      exact congrArg (x :: ·) (ih M)
  have := h []
  rwa [List.append_nil] at this
theorem pick_hash {α : Type} (g : α → Int) (L : List α) (hs : Array Int) (h : hs.toList = L.map g) : ∀ l : List Nat, (∀ i ∈ l, i < L.length) → (l.filterMap fun i => L[i]?).map g = l.map fun i => hs.getD i 0
  | [], _ => rfl
  | i :: l, hl => by
    have hi := hl i (.head _)
    have e : hs[i]? = some (g L[i]) := by
      rw [← Array.getElem?_toList, h, List.getElem?_map, List.getElem?_eq_getElem hi]
      rfl
    rw [List.filterMap_cons, List.getElem?_eq_getElem hi, List.map_cons]
    show g L[i] :: _ = hs.getD i 0 :: _
    rw [pick_hash g L hs h l fun j hj => hl j (.tail _ hj)]
    congr 1
    rw [Array.getD_eq_getD_getElem?, e]
    rfl
section
variable {P : Program} {w : World} {A : Around} {E : Value → Shared → Prop} {s : Shared}
variable {a : Addr} {L : List Row1} {es : Array (Int × Value)} {ep : Nat} {t : SetTable}
theorem seek_at (R : SF P w s.heap a L es ep t) {x : Addr} {k : List Key} (hx : Bears P w s.heap k x) (hu : A.units < cLine) {Q : SetFound → Shared → Prop} (qin : k ∈ L.map Prod.snd → Q (.there none) s)
    (qout : ∀ K, k ∉ L.map Prod.snd → way t.mask (fH P w k) K ∉ t.place.toList → (∀ d, d < K → way t.mask (fH P w k) d ∈ t.place.toList) → Q (.free (way t.mask (fH P w k) K) false) s) :
    wpAny (model P w) A (setSearch a (.ref x) (fH P w k) true) Q E s := by
  have hr := R.roomy
  obtain ⟨K, k1, k2, k3⟩ := R.tab.first (by rw [List.length_map]; omega) (fH P w k)
  have bound : 10 * SetTable.turns t.mask ≤ 90000 := by
    unfold SetTable.turns
    rcases R.tab.mok with e | e | e <;> omega
  unfold setSearch
  refine seek R hx hu k2 k3 k1 qin (fun n => qout K n k2 k3) 100000 0 none rfl (Nat.zero_le _) (by omega) fun i r e ek => ?_
  have il : i < t.place.toList.length := by
    rw [Array.length_toList, R.psz]
    exact (List.getElem?_eq_some_iff.mp e).1
  have h1 : (L.map fun r => fH P w r.2)[i]? = some (fH P w k) := by
    rw [List.getElem?_map, e, ← ek]
    rfl
  obtain ⟨d, d1, d2⟩ := R.tab.before k2 h1 (List.getElem?_eq_getElem il)
  exact ⟨d, ⟨Nat.zero_le _, d1⟩, by rw [List.getElem?_eq_getElem il, d2]⟩
theorem Bears.but {h h' : Heap} {k : List Key} {b : Addr} {o : Obj} (hb : Bears P w h k b) (ho : h.get? a = some o) (hd : o.data = .set es ep t) (sb : Heap.SameBut a h h') : Bears P w h' k b := by
  obtain ⟨u, its, n, hu, r1, r2, r3⟩ := hb
  refine ⟨u, its, n, (sb.2 b fun e => ?_).trans hu, r1, r2, r3⟩
  rw [e, ho] at hu
  rw [← Option.some.inj hu, hd] at r2
  cases r2
/-- the table laid anew -/
theorem relay_of {o : Obj} (ho : s.heap.get? a = some o) (hex : o.ExactSet) (hd : o.data = .set es ep t) (ent : es.toList = L.map (entF P w)) (psz : t.place.size = L.length) (dm : t.dummies = #[]) (fl : L.length ≤ t.mask)
    (keys : (L.map Prod.snd).Nodup) (each : ∀ r ∈ L, Bears P w s.heap r.2 r.1) (ld : w.params.followText "set-order" = true ∨ t.led = true) (sm : L.length ≤ 60) {n M : Nat} (e1 : SetTable.sizeAbove n = M + 1) (hM : MaskOk M) (hr : 5 * L.length < 3 * M)
    {Q : Unit → Shared → Prop} (q : ∀ h' L' es' ep' t', Heap.SameBut a s.heap h' → SF P w h' a L' es' ep' t' → L'.Perm L → Q () { s with heap := h' }) : wpAny (model P w) A (setRelay a n) Q E s := by
  have esz : es.size = L.length := by
    have := congrArg List.length ent
    simpa using this
  have M127 : M ≤ 127 := by rcases hM with e | e | e <;> omega
  obtain ⟨t', ord, r1, r2, r3, r4, r5, r6, r7⟩ := relaid_ok t (hs := es.map (·.1)) (wanted := n) (M := M) (by rw [e1]; rfl) hM (by rw [Array.size_map, esz]; omega)
  rw [Array.size_map, esz] at r2
  have lt : ∀ i ∈ ord.toList, i < L.length := fun i hi => List.mem_range.mp (r2.mem_iff.mp hi)
  have pL : (ord.toList.filterMap fun i => L[i]?).Perm L := by
    have := r2.filterMap fun i => L[i]?
    rwa [pick_all] at this
  have e2 : (ord.filterMap (es[·]?)).toList = (ord.toList.filterMap fun i => L[i]?).map (entF P w) := by
    rw [← pick_map (entF P w) es L ent, Array.toList_filterMap]
  have e3 := pick_hash (fun r => fH P w r.2) L (es.map (·.1)) (by rw [Array.toList_map, ent, List.map_map]; rfl) ord.toList lt
  rw [← e3] at r3
  generalize (ord.toList.filterMap fun i => L[i]?) = L' at pL e2 r3
  have sz2 : (ord.filterMap (es[·]?)).size = L.length := by
    have := congrArg List.length e2
    rw [Array.length_toList, List.length_map, pL.length_eq] at this
    exact this
  rw [setRelay_eq]
  refine wpAny_bind (wpAny_setState_of ho hd (by rw [esz]; exact fits_of psz dm fl) ?_)
  refine wp_if_neg (by rw [e1, sizeLine_eq]; omega) ?_
  dsimp only
  rw [r1]
  refine wpAny_bind ?_
  dsimp only
  refine wp_if_neg (by rw [sz2, esz]; simp) (wpAny_pure ?_)
  generalize ord.filterMap (es[·]?) = es' at e2 sz2
  refine wpAny_storeSet_of ho hd ?_ (by rw [sz2, sizeLine_eq]; omega)
  have sb : Heap.SameBut a s.heap (s.heap.update a (Obj.putSet es' t')) := Heap.SameBut.update ..
  exact q _ L' es' (ep + 1) t' sb ⟨⟨_, ⟨store_at ho hd, ⟨hex.1, hex.2.1, hex.2.2⟩⟩, rfl⟩, e2, r3, (pL.map Prod.snd).nodup_iff.mpr keys, fun r hr => (each r (pL.mem_iff.mp hr)).but ho hd sb, by rw [r5]; exact ld, by rw [pL.length_eq, r4]; exact hr, by rw [pL.length_eq]; exact sm⟩ pL
end
end Wm
end
section
set_option Elab.async false
set_option linter.all false
set_option maxRecDepth 100000
set_option maxHeartbeats 4000000
/-! Sets of mixed tuples: adding. -/
namespace Wm
open PySem PySem.Spec PyProof.Rows L2
set_option autoImplicit false
section
variable {P : Program} {w : World} {A : Around} {E : Value → Shared → Prop} {s : Shared}
variable {a : Addr} {L : List Row1} {es : Array (Int × Value)} {ep : Nat} {t : SetTable}
theorem tab_plain {t : SetTable} {hs : List Int} (T : TabOk t hs) (b : Bool) : TabOk { t with plain := b } hs := ⟨T.ris, T.dm, T.sz, T.mok, T.bd, T.reach⟩
theorem add_of (R : SF P w s.heap a L es ep t) {x : Addr} {k : List Key} (hx : Bears P w s.heap k x) (hu : A.units < cLine) (few : k ∉ L.map Prod.snd → L.length + 1 ≤ 60) {Q : Bool → Shared → Prop}
    (q : ∀ b h' L' es' ep' t', Heap.SameBut a s.heap h' → SF P w h' a L' es' ep' t' → (k ∈ L.map Prod.snd ∧ L' = L) ∨ (k ∉ L.map Prod.snd ∧ L'.Perm ((x, k) :: L)) → Q b { s with heap := h' }) :
    wpAny (model P w) A (setAddHashed a (.ref x) (fH P w k)) Q E s := by
  obtain ⟨o, ⟨ho, hex⟩, hd⟩ := R.obj
  have hsl := R.esz
  have hr := R.roomy
  unfold setAddHashed
  refine wpAny_holding ?_
  show wpAny _ _ (setAddHashedIn a (.ref x) (fH P w k) (99999 + 1)) Q E s
  rw [setAddHashedIn_succ]
  refine wpAny_bind (wpAny_setState_of ho hd R.fit ?_)
  refine wp_if_neg (by unfold byScan; simp [Value.scannable]) ?_
  refine wpAny_bind (seek_at R hx hu (fun hm => ?_) fun K hm hK hb => ?_)
  · exact wpAny_pure (q false s.heap L es ep t (Heap.SameBut.refl a s.heap) R (.inl ⟨hm, rfl⟩))
  · refine wpAny_bind (wpAny_setState_of ho hd R.fit ?_)
    obtain ⟨p1, p2, p3, p4, p5, p6, p7, p8, p9⟩ := R.tab.put hK hb
    dsimp only
    generalize hput : t.put (way t.mask (fH P w k) K) = tp at p1 p3 p4 p5 p6 p7 p8 p9 ⊢
    obtain ⟨t1, j⟩ := tp
    have p1 : j = SetTable.below t.place (way t.mask (fH P w k) K) := p1
    dsimp only at p3 p4 p5 p9 ⊢
    rw [← p1] at p2 p3
    -- whether by value: it makes no difference here
    have tail : ∀ byV : Bool, wpAny (model P w) A (do
        let t := if byV then t1 else { t1 with plain := false }
        storeSet a (SetTable.insertAt es j (fH P w k, Value.ref x)) t
        if !false && t.tooFull then setRelay a (SetTable.grown (es.size + 1))
        return true) Q E s := by
      intro byV
      have hx2 : ∃ t2 : SetTable, (if byV then t1 else { t1 with plain := false }) = t2 ∧ TabOk t2 (((L.map fun r => fH P w r.2).take j) ++ fH P w k :: (L.map fun r => fH P w r.2).drop j) ∧ t2.mask = t.mask ∧ t2.led = t.led ∧ t2.fill = L.length + 1 := by
        cases byV with
        | true => exact ⟨_, rfl, p3, p4, p5, by rw [List.length_map] at p9; exact p9⟩
        | false => exact ⟨_, rfl, tab_plain p3 false, p4, p5, by rw [List.length_map] at p9; exact p9⟩
      obtain ⟨t2, e2, T2, m2, l2, f2⟩ := hx2
      dsimp only
      rw [e2]
      have ent2 : (SetTable.insertAt es j (fH P w k, Value.ref x)).toList = (L.take j ++ (x, k) :: L.drop j).map (entF P w) := by
        rw [SetTable.toList_insertAt, R.ent, List.map_append, List.map_cons, List.map_take, List.map_drop]
        rfl
      have hs2 : ((L.map fun r => fH P w r.2).take j) ++ fH P w k :: (L.map fun r => fH P w r.2).drop j = (L.take j ++ (x, k) :: L.drop j).map fun r => fH P w r.2 := by
        rw [List.map_append, List.map_cons, List.map_take, List.map_drop]
      rw [hs2] at T2
      have pm : (L.take j ++ (x, k) :: L.drop j).Perm ((x, k) :: L) := put_perm L j (x, k)
      have len1 := pm.length_eq
      rw [List.length_cons] at len1
      generalize (L.take j ++ (x, k) :: L.drop j) = L1 at ent2 T2 pm len1
      have keys1 : (L1.map Prod.snd).Nodup := (pm.map Prod.snd).nodup_iff.mpr (List.nodup_cons.mpr ⟨hm, R.keys⟩)
      have fw := few hm
      generalize SetTable.insertAt es j (fH P w k, Value.ref x) = es1 at ent2
      have sz1 : es1.size = L.length + 1 := by
        have := congrArg List.length ent2
        rw [Array.length_toList, List.length_map, len1] at this
        exact this
      refine wpAny_bind (wpAny_storeSet_of ho hd ?_ (by rw [sz1, sizeLine_eq]; omega))
      have sb : Heap.SameBut a s.heap (s.heap.update a (Obj.putSet es1 t2)) := Heap.SameBut.update ..
      have ho1 := store_at (es' := es1) (t' := t2) ho hd
      generalize s.heap.update a (Obj.putSet es1 t2) = h1 at sb ho1 ⊢
      have each1 : ∀ r ∈ L1, Bears P w h1 r.2 r.1 := fun r hr => by
        rcases List.mem_cons.mp (pm.mem_iff.mp hr) with e | h
        · rw [e]
          exact hx.but ho hd sb
        · exact (R.each r h).but ho hd sb
      have led1 : w.params.followText "set-order" = true ∨ t2.led = true := by rw [l2]; exact R.led
      have full : t2.tooFull = decide (5 * (L.length + 1) ≥ 3 * t.mask) := by
        unfold SetTable.tooFull
        rw [f2, m2, Nat.mul_comm, Nat.mul_comm t.mask]
      by_cases hf : 5 * (L.length + 1) ≥ 3 * t.mask
      · rw [decide_eq_true hf] at full
        rw [full]
        have two : (t.mask = 7 ∧ L.length = 4) ∨ (t.mask = 31 ∧ L.length = 18) := by
          rcases R.tab.mok with e | e | e
          · exact .inl ⟨e, by omega⟩
          · exact .inr ⟨e, by omega⟩
          · exfalso
            omega
        have psz2 : t2.place.size = L1.length := by
          have := T2.sz
          rwa [List.length_map] at this
        have go : ∀ M, SetTable.sizeAbove (SetTable.grown (es.size + 1)) = M + 1 → MaskOk M → 5 * L1.length < 3 * M → wpAny (model P w) A (setRelay a (SetTable.grown (es.size + 1)) >>= fun _ => pure true) Q E { s with heap := h1 } := fun M g1 g2 g3 =>
          wpAny_bind (relay_of (s := { s with heap := h1 }) ho1 ⟨hex.1, hex.2.1, hex.2.2⟩ rfl ent2 psz2 T2.dm (by rw [m2]; rcases two with ⟨e, e'⟩ | ⟨e, e'⟩ <;> omega) keys1 each1 led1 (by omega) g1 g2 g3
            fun h2 L2 es2 ep2 t3 sb2 R2 pm2 => wpAny_pure (q true h2 L2 es2 ep2 t3 (sb.trans sb2) R2 (.inr ⟨hm, pm2.trans pm⟩)))
        simp only [Bool.not_false, Bool.and_self, if_true]
        rcases two with ⟨e, e'⟩ | ⟨e, e'⟩
        · exact go 31 (by rw [hsl, e']; exact size_20) (.inr (.inl rfl)) (by omega)
        · exact go 127 (by rw [hsl, e']; exact size_76) (.inr (.inr rfl)) (by omega)
      · rw [decide_eq_false hf] at full
        rw [full]
        simp only [Bool.not_false, Bool.and_false, Bool.false_eq_true, if_false]
        refine wpAny_bind (wpAny_pure ?_)
        exact wpAny_pure (q true h1 L1 es1 (ep + 1) t2 sb ⟨⟨_, ⟨ho1, ⟨hex.1, hex.2.1, hex.2.2⟩⟩, rfl⟩, ent2, T2, keys1, each1, led1, by rw [len1, m2]; omega, by omega⟩ (.inr ⟨hm, pm⟩))
    by_cases hp : t1.plain = true
    · first
        | refine wpAny_bind (wp_if_pos hp (bears_byVal hx fun r => ?_))
        | refine wp_if_pos hp (wpAny_bind (bears_byVal hx fun r => ?_))
      exact tail r
    · first
        | refine wpAny_bind (wp_if_neg hp (wpAny_pure ?_))
        | refine wp_if_neg hp (wpAny_bind (wpAny_pure ?_))
      exact tail true
end
end Wm
end
section
set_option Elab.async false
set_option linter.all false
set_option maxRecDepth 100000
set_option maxHeartbeats 4000000
/-! Sets of mixed tuples: set(list). -/
namespace Wm
open PySem PySem.Spec PyProof.Rows L2
set_option autoImplicit false
theorem nodup_le {α : Type} [DecidableEq α] : ∀ (xs ys : List α), xs.Nodup → (∀ x ∈ xs, x ∈ ys) → xs.length ≤ ys.length
  | [], _, _, _ => Nat.zero_le _
  | x :: xs, ys, h, k => by
    obtain ⟨h1, h2⟩ := List.nodup_cons.mp h
    have hx := k x (.head _)
    have := nodup_le xs (ys.erase x) h2 fun y hy => (List.mem_erase_of_ne (fun e => h1 (by rw [← e]; exact hy))).mpr (k y (.tail _ hy))
    rw [List.length_erase_of_mem hx] at this
    have := List.length_pos_of_mem hx
    rw [List.length_cons]
    omega
/-- the rows met among the first i -/
structure Has (ks : List Row1) (i : Nat) (L : List Row1) : Prop where
  inn : ∀ r ∈ L, r ∈ ks.take i
  out : ∀ r ∈ ks.take i, r.2 ∈ L.map Prod.snd
theorem Has.step {ks L L' : List Row1} {i : Nat} {r : Row1} (g : Has ks i L) (e : ks[i]? = some r) (h : (r.2 ∈ L.map Prod.snd ∧ L' = L) ∨ (r.2 ∉ L.map Prod.snd ∧ L'.Perm ((r.1, r.2) :: L))) : Has ks (i + 1) L' := by
  have tk : ks.take (i + 1) = ks.take i ++ [r] := by rw [List.take_add_one, e]; rfl
  rcases h with ⟨h1, rfl⟩ | ⟨h1, h2⟩
  · refine ⟨fun z hz => by rw [tk]; exact List.mem_append_left _ (g.inn z hz), fun z hz => ?_⟩
    rw [tk] at hz
    rcases List.mem_append.mp hz with h | h
    · exact g.out z h
    · rw [List.mem_singleton.mp h]
      exact h1
  · refine ⟨fun z hz => ?_, fun z hz => ?_⟩
    · rw [tk]
      rcases List.mem_cons.mp (h2.mem_iff.mp hz) with h | h
      · rw [h]
        exact List.mem_append_right _ (.head _)
      · exact List.mem_append_left _ (g.inn z h)
    · rw [(h2.map Prod.snd).mem_iff]
      rw [tk] at hz
      rcases List.mem_append.mp hz with h | h
      · exact .tail _ (g.out z h)
      · rw [List.mem_singleton.mp h]
        exact .head _
section
variable {P : Program} {w : World} {A : Around} {E : Value → Shared → Prop} {s : Shared}
theorem Bears.keep {h h' : Heap} {k : List Key} {b : Addr} (x : Bears P w h k b) (hk : ∀ c o, h.get? c = some o → h'.get? c = some o) : Bears P w h' k b := let ⟨o, its, n, ho, r⟩ := x; ⟨o, its, n, hk b o ho, r⟩
theorem SF.on {h h' : Heap} {a : Addr} {L : List Row1} {es : Array (Int × Value)} {ep : Nat} {t : SetTable} (R : SF P w h a L es ep t) (ha : ∀ o, h.get? a = some o → h'.get? a = some o) (hb : ∀ r ∈ L, Bears P w h' r.2 r.1) : SF P w h' a L es ep t :=
  let ⟨o, ⟨ho, hx⟩, hd⟩ := R.obj
  ⟨⟨o, ⟨ha o ho, hx⟩, hd⟩, R.ent, R.tab, R.keys, hb, R.led, R.roomy, R.small⟩
/-- the object of a new set -/
def newSetObj (w : World) : Obj := { cls := .type "set", dict := none, data := .set #[] 0 (.fresh 0 0 (!w.params.followText "set-order")) }
theorem sf_empty {h : Heap} {a : Addr} (ho : h.get? a = some (newSetObj w)) : SF P w h a [] #[] 0 (.fresh 0 0 (!w.params.followText "set-order")) where
  obj := ⟨_, ⟨ho, ⟨rfl, rfl, rfl⟩⟩, rfl⟩
  ent := rfl
  tab := ⟨.nil, rfl, rfl, .inl rfl, (fun _ hx => nomatch hx), fun _ _ _ hi => nomatch hi⟩
  keys := .nil
  each := fun _ hr => nomatch hr
  led := by
    cases e : w.params.followText "set-order" with
    | true => exact .inl rfl
    | false => exact .inr rfl
  roomy := by show 5 * 0 < 3 * 7; decide
  small := Nat.zero_le _
theorem setGrow {I : Addr} {fp wr : List Addr} {n : Nat} {Pv : Nat → Value → Prop} {St : Nat → Heap → Prop} {R : Result → Shared → Prop} (W : Walks P w A.in1 I fp wr n Pv St) (S : Addr) (hSf : S ∉ fp) (ks : List Row1) (hn : n = ks.length)
    (D : List (List Key)) (hD : D.length ≤ 60) (hin : ∀ r ∈ ks, r.2 ∈ D) (hval : ∀ i v, Pv i v → ∃ r, ks[i]? = some r ∧ v = .ref r.1) (h0 : Heap) (hk : ∀ r ∈ ks, Bears P w h0 r.2 r.1) (hS0 : h0.get? S = none) (hw0 : ∀ b ∈ wr, h0.get? b = none) (hu : A.in1.units < cLine) :
    ∀ (m i : Nat) (s : Shared), n - i = m → i ≤ n → St i s.heap → (∀ b o, h0.get? b = some o → s.heap.get? b = some o) → (∃ L es ep t, SF P w s.heap S L es ep t ∧ Has ks i L) →
      (∀ h' tk L es ep t, SF P w h' S L es ep t → Has ks n L → (∀ b o, h0.get? b = some o → h'.get? b = some o) → R (.ok (.ret .none)) { s with heap := h', toks := tk }) →
      codeAny (model P w) A (.builtin "set.update.loop" ⟨[.ref S, .ref I], []⟩) R s := by
  have hSw : S ∉ wr := fun h => hSf (W.sub _ h)
  have onward : ∀ {h h' : Heap}, (∀ b o, b ∉ wr → h.get? b = some o → h'.get? b = some o) → (∀ b o, h0.get? b = some o → h.get? b = some o) → ∀ b o, h0.get? b = some o → h'.get? b = some o :=
    fun f g b o e => f b o (fun hb => by rw [hw0 b hb] at e; cases e) (g b o e)
  intro m
  induction m with
  | zero =>
    rintro i s hm hi hst hkp ⟨L, es, ep, t, hS, g⟩ q
    have hin : i = n := by omega
    subst hin
    refine codeAny_builtin F.entry_set_update_loop ?_
    rw [Around.under_plainId F.plain_set_update_loop _]
    show wpAny _ A.in1 (pyNext (.ref I) >>= _) _ _ s
    refine wpAny_bind (W.done s _ _ hst fun h' tk hf => ?_)
    have kp := onward hf hkp
    exact wpAny_pure (q h' tk L es ep t (hS.on (fun o e => hf S o hSw e) fun r hr => (hk r (List.mem_of_mem_take (g.inn r hr))).keep kp) g kp)
  | succ m ih =>
    rintro i s hm hi hst hkp ⟨L, es, ep, t, hS, g⟩ q
    have hlt : i < n := by omega
    refine codeAny_builtin F.entry_set_update_loop ?_
    rw [Around.under_plainId F.plain_set_update_loop _]
    show wpAny _ A.in1 (pyNext (.ref I) >>= _) _ _ s
    refine wpAny_bind (W.item i s _ _ hlt hst fun v h1 tk1 hP hst1 hf => ?_)
    obtain ⟨r, hr, rfl⟩ := hval i v hP
    have kp := onward hf hkp
    have hS1 := hS.on (h' := h1) (fun o e => hf S o hSw e) fun r hr => (hk r (List.mem_of_mem_take (g.inn r hr))).keep kp
    have hrm := List.mem_of_getElem? hr
    have hx : Bears P w h1 r.2 r.1 := (hk r hrm).keep kp
    show wpAny _ A.in1 (holding [Value.ref r.1] (setAdd S (.ref r.1)) >>= _) _ _ _
    refine wpAny_bind (wpAny_holding ?_)
    unfold setAdd
    refine wpAny_holding ?_
    refine wpAny_bind (wpAny_pyHash_tuple (s := { s with heap := h1, toks := tk1 }) hu hx ?_)
    refine add_of (s := { s with heap := h1, toks := tk1 + (r.2.length + 1) }) hS1 hx hu (fun hm => ?_) fun b h2 L' es' ep' t' sb hS2 c => ?_
    · have := nodup_le (r.2 :: L.map Prod.snd) D (List.nodup_cons.mpr ⟨hm, hS.keys⟩) fun z hz => by
        rcases List.mem_cons.mp hz with e | h
        · rw [e]
          exact hin r hrm
        · obtain ⟨u, hu1, rfl⟩ := List.mem_map.mp h
          exact hin u (List.mem_of_mem_take (g.inn u hu1))
      rw [List.length_cons, List.length_map] at this
      omega
    · have kp2 : ∀ b o, h0.get? b = some o → h2.get? b = some o := fun b o e => (sb.2 b (fun z => by rw [z, hS0] at e; cases e)).trans (kp b o e)
      refine wpAny_pure ⟨plainId_quiet F.plain_set_update_loop _, ih (i + 1) { s with heap := h2, toks := tk1 + (r.2.length + 1) } (by omega) hlt (W.frame _ h1 h2 hst1 fun b hb o e => ?_) kp2 ⟨L', es', ep', t', hS2, g.step hr c⟩ fun h3 tk3 L3 es3 ep3 t3 a1 a2 a3 => q h3 tk3 L3 es3 ep3 t3 a1 a2 a3⟩
      rw [sb.2 b (fun z => hSf (by rw [← z]; exact hb))]
      exact e
end
end Wm
end
section
set_option Elab.async false
set_option linter.all false
set_option maxRecDepth 100000
set_option maxHeartbeats 4000000
/-! Sets of mixed tuples: set(list), sorted(set). -/
namespace Wm
open PySem PySem.Spec PyProof.Rows L2
set_option autoImplicit false
section
variable {P : Program} {w : World} {A : Around} {E : Value → Shared → Prop} {s : Shared}
theorem call_setF {l : Addr} {its : Array Value} (ks : List Row1) (D : List (List Key)) (hD : D.length ≤ 60) (hin : ∀ r ∈ ks, r.2 ∈ D) {Q : Value → Shared → Prop} (calm : A.handled = none) (hl : s.heap.IsList l its) (hit : its.toList = ks.map fun r => Value.ref r.1)
    (hk : ∀ r ∈ ks, Bears P w s.heap r.2 r.1) (hu : A.units + 3 < cLine)
    (q : ∀ (h' : Heap) (tk : Nat) L es ep t, SF P w h' s.heap.objs.size L es ep t → Has ks ks.length L → (∀ b o, s.heap.get? b = some o → h'.get? b = some o) → Q (.ref s.heap.objs.size) { s with heap := h', toks := tk }) :
    wpAny (model P w) A (call (.type "set") [.ref l]) Q E s := by
  have isz : its.size = ks.length := by
    have := congrArg List.length hit
    simpa using this
  obtain ⟨mc, mt, m1⟩ := F.called_set.mro
  have m2 := F.called_set.made
  have m3 := F.called_set.sub
  refine wpAny_call (codeAny_of_tree ?_)
  show wpAny _ _ (callAny (.type "set") _) _ _ _
  refine wpAny_pure ⟨Code.quiet_builtin _ (by decide +kernel), codeAny_builtin F.entry_type_call ?_⟩
  rw [Around.under_plain (weight_type_call_type "set" [.ref l] []) rfl]
  have m4 := F.called_set.notType
  have m5 := F.called_set.canCreate
  have m6 := F.typeCall_set_1 (.ref l)
  repeat (any_goals (first | assumption | wp_step))
  refine codeAny_mono (code_set_led1 (.ref l) (E := E) (Q₁ := fun v z => v = .ref s.heap.objs.size ∧ z = { s with heap := s.heap.push (newSetObj w) }) ⟨rfl, rfl⟩) fun r z hr => ?_
  match r, hr with
  | .error e, hr => exact hr
  | .ok (.ret v), hr =>
    obtain ⟨rfl, rfl⟩ := hr
    have g1 : (s.heap.push (newSetObj w)).get? s.heap.objs.size = some (newSetObj w) := Heap.get?_push_size _ rfl
    have g2 : Shared.TypeIs { s with heap := s.heap.push (newSetObj w) } (.ref s.heap.objs.size) "set" := ⟨_, g1, rfl⟩
    have m7 := F.called_set.init.lookup
    have m8 := F.called_set.init.bind (.ref s.heap.objs.size)
    repeat (any_goals (first | assumption | wp_step))
    refine codeAny_mono (codeAny_call_builtin (R := wants (fun v z => v = .none ∧ ∃ h' tk L es ep t, z = { s with heap := h', toks := tk } ∧ (SF P w h' s.heap.objs.size L es ep t ∧ Has ks ks.length L) ∧ ∀ b o, s.heap.get? b = some o → h'.get? b = some o) E)
      F.called_set.init.plain F.entry_set_init (check_set_init_1 g2 ?_)) fun r2 z2 hr2 => ?_
    · obtain ⟨⟨cl, od, odt, osl⟩, hol, hcl, nl, hdl⟩ := id hl
      have hcl : cl = .type "list" := hcl
      have hdl : odt = .seq its nl := hdl
      subst hcl
      subst hdl
      have g3 : (s.heap.push (newSetObj w)).get? l = some { cls := .type "list", dict := od, data := .seq its nl, slots := osl } := Heap.get?_push_of_some _ hol
      have f1 := F.sub_list_set
      have f2 := F.sub_list_frozenset
      have f3 : (Value.type "list" == Value.type "dict") = false := by decide
      have g4 : (s.heap.push (newSetObj w)).IsList l its := ⟨_, g3, rfl, nl, rfl⟩
      unfold Builtin.«set.__init__» noKeywords Builtin.Frozenset.updateFrom
      generalize hIt : pyIter = it
      wp_walk
      subst hIt
      refine wpAny_pyIter_list g4 ?_
      refine wpAny_bind (wpAny_runValue ?_)
      have lt : l < s.heap.objs.size := Heap.lt_size hol
      have calm3 : A.in1.in1.in1.handled = none := by simp [calm]
      have sz1 : (s.heap.push (newSetObj w)).objs.size = s.heap.objs.size + 1 := Heap.size_push ..
      have ne1 : l ≠ (s.heap.push (newSetObj w)).objs.size := Nat.ne_of_lt (Nat.lt_of_lt_of_eq (Nat.lt_succ_of_lt lt) sz1.symm)
      have ne2 : s.heap.objs.size ∉ [(s.heap.push (newSetObj w)).objs.size, l] := fun h => by
        rcases List.mem_cons.mp h with e | h
        · exact Nat.ne_of_lt (Nat.lt_succ_self _) (e.trans sz1)
        · exact Nat.ne_of_gt lt (List.mem_singleton.mp h)
      have at1 : ∀ (i : Nat) (v : Value), its[i]? = some v → ∃ r, ks[i]? = some r ∧ v = .ref r.1 := fun i v hv => by
        rw [← Array.getElem?_toList, hit, List.getElem?_map] at hv
        cases hq : ks[i]? with
        | none => rw [hq] at hv; cases hv
        | some r =>
          rw [hq] at hv
          exact ⟨r, rfl, (Option.some.inj hv).symm⟩
      have off : ∀ b, s.heap.objs.size ≤ b → s.heap.get? b = none := fun b hb => by
        cases e : s.heap.get? b with
        | none => rfl
        | some o => exact absurd (Heap.lt_size e) (Nat.not_lt_of_le hb)
      refine setGrow (Walks.list calm3 _ l ne1 its) s.heap.objs.size ne2 ks isz D hD hin at1 s.heap hk (off _ (Nat.le_refl _)) (fun b hb => off b (by rw [List.mem_singleton.mp hb, sz1]; exact Nat.le_succ _)) hu (its.size - 0) 0 _ (by omega) (Nat.zero_le _)
        ⟨⟨_, Heap.get?_push_size _ rfl, rfl, rfl⟩, (g4.push _)⟩ (fun b o e => Heap.get?_push_of_some _ (Heap.get?_push_of_some _ e)) ⟨[], #[], 0, _, sf_empty (Heap.get?_push_of_some _ g1), ⟨(fun _ h => nomatch h), fun r hr => by simp at hr⟩⟩ fun h' tk L es ep t a1 a2 a3 => ?_
      show wpAny _ _ _ _ _ _
      refine wpAny_pure ?_
      show wpAny _ _ (ret Value.none) _ _ _
      rw [isz] at a2
      exact wpAny_pure ⟨rfl, h', tk, L, es, ep, t, rfl, ⟨a1, a2⟩, a3⟩
    · match r2, hr2 with
      | .error e, hr2 => exact hr2
      | .ok (.ret v), hr2 =>
        obtain ⟨rfl, h', tk, L, es, ep, t, rfl, ⟨a1, a2⟩, a3⟩ := hr2
        repeat (any_goals (first | assumption | wp_step))
        exact q h' tk L es ep t a1 a2 a3
end
end Wm
end
section
set_option Elab.async false
set_option linter.all false
set_option maxRecDepth 100000
set_option maxHeartbeats 4000000
/-! Sets of mixed tuples: the rules. -/
namespace Wm
open PySem PySem.Spec PyProof.Rows L2 PySem.W
set_option autoImplicit false
theorem perm_lift {α β : Type} (f : α → β) : ∀ (L : List α) (out : List β), out.Perm (L.map f) → ∃ L1 : List α, L1.Perm L ∧ out = L1.map f
  | [], out, h => ⟨[], .refl _, by simpa using h⟩
  | x :: L, out, h => by
    have hm : f x ∈ out := h.mem_iff.mpr (.head _)
    obtain ⟨u, v, rfl⟩ := List.append_of_mem hm
    have h2 : (u ++ v).Perm (L.map f) := by
      have h3 : (f x :: (u ++ v)).Perm (f x :: L.map f) := List.perm_middle.symm.trans h
      exact h3.cons_inv
    obtain ⟨L1, p1, e1⟩ := perm_lift f L (u ++ v) h2
    obtain ⟨u1, v1, rfl, e2, e3⟩ := List.map_eq_append_iff.mp e1.symm
    refine ⟨u1 ++ x :: v1, List.perm_middle.trans (p1.cons x), ?_⟩
    rw [List.map_append, List.map_cons, e2, e3]
theorem each_map2 {α β γ : Type} {R : β → γ → Prop} (f : α → β) (g : α → γ) : ∀ (L : List α), (∀ x ∈ L, R (f x) (g x)) → EachIs R (L.map f) (L.map g)
  | [], _ => .nil
  | x :: L, h => .cons (h x (.head _)) (each_map2 f g L fun y hy => h y (.tail _ hy))
abbrev dKey : Key → PyData := fun y => match y with | .inl i => .int i | .inr x => .str x
theorem reads_items {h : Heap} {P : Program} {w : World} {k : List Key} {vs : List Value} (x : ItemsAre (mixKind P w) k vs) : ReadsAll h vs (k.map dKey) [] := by
  induction x with
  | nil => exact .nil
  | @cons c v ks vs h1 _ ih =>
    rcases keyIs_shape h1 with ⟨i, t, rfl, rfl⟩ | ⟨x, t, rfl, rfl⟩
    · exact ReadsAll.cons (as := []) (bs := []) (.int i t) ih
    · exact ReadsAll.cons (as := []) (bs := []) (.str x t) ih
theorem reads_bears {h : Heap} {P : Program} {w : World} {k : List Key} {b : Addr} (x : Bears P w h k b) : Reads h (.ref b) (.tuple (k.map dKey)) [] := by
  obtain ⟨o, its, n, ho, hc, hd, hi⟩ := x
  exact .tuple ho hc hd (reads_items hi)
/-- the set at a; its tuples are told apart from it -/
def SF0 (P : Program) (w : World) (h : Heap) (a : Addr) (L : List Row1) : Prop := ∃ (es : Array (Int × Value)) (ep : Nat) (t : SetTable), (∃ o, (h.get? a = some o ∧ o.ExactSet) ∧ o.data = .set es ep t) ∧ es.toList = L.map (entF P w) ∧ TabOk t (L.map fun r => fH P w r.2) ∧
  (L.map Prod.snd).Nodup ∧ (w.params.followText "set-order" = true ∨ t.led = true) ∧ 5 * L.length < 3 * t.mask ∧ L.length ≤ 60
def SFO (P : Program) (w : World) (a : Addr) (L : List Row1) : HO := .ext fun h => SF0 P w h a L
section
variable {P : Program} {w : World}
theorem SF.zero {h : Heap} {a : Addr} {L : List Row1} {es : Array (Int × Value)} {ep : Nat} {t : SetTable} (R : SF P w h a L es ep t) : SF0 P w h a L := ⟨es, ep, t, R.obj, R.ent, R.tab, R.keys, R.led, R.roomy, R.small⟩
theorem SF0.full {h : Heap} {a : Addr} {L : List Row1} (R : SF0 P w h a L) (b : ∀ r ∈ L, Bears P w h r.2 r.1) : ∃ es ep t, SF P w h a L es ep t :=
  let ⟨es, ep, t, h1, h2, h3, h4, h5, h6, h7⟩ := R
  ⟨es, ep, t, h1, h2, h3, h4, b, h5, h6, h7⟩
theorem sfo_ok {H : Hp} {h : Heap} {a : Addr} {L : List Row1} (R : SF0 P w h a L) : ObjOk P w H h a (SFO P w a L) := by
  obtain ⟨_, _, _, ⟨o, ⟨ho, _⟩, _⟩, _⟩ := id R
  refine ⟨R, ⟨o, ho⟩, fun h1 h2 p k => ?_⟩
  obtain ⟨es', ep', t', ⟨o', ⟨ho', x'⟩, d'⟩, r'⟩ := (show SF0 P w h1 a L from p)
  exact ⟨es', ep', t', ⟨o', ⟨k o' ho', x'⟩, d'⟩, r'⟩
theorem ref_vals : ∀ {ks : List Row1} {us : List Value}, Vals (ks.map fun r => V.ref r.1) us → us = ks.map fun r => Value.ref r.1
  | [], _, .nil => rfl
  | _ :: _, _, .cons r t => by
    cases r
    rw [ref_vals t]
    rfl
end
section
variable {X : Cx}
theorem bears_inv {pins : List (Addr × Obj)} {σ : L2.St} {H : Hp} {s : Shared} {b : Addr} {k : List Key} (I : Inv X pins σ H s) (e : H b = some (.tup (k.map kV))) : Bears X.prog X.w s.heap k b := by
  obtain ⟨_, its, rv, ⟨ob, hob, hcl, n, hdd⟩⟩ := (show ObjOk X.prog X.w H s.heap b (.tup (k.map kV)) from I.hok _ _ e)
  exact ⟨ob, its.toArray, n, hob, hcl, hdd, by simpa using items_are rv⟩
/-- set(l), l a list of such tuples, few of them different -/
def rSetF (K : PySem.W.Frag) (P : Program) (w : World) : List V → Hp → VK → Prop := fun xs H Q => ∃ (l : Addr) (ks : List Row1) (D : List (List Key)), xs = [V.ref l] ∧ SqL K H l (ks.map fun r => V.ref r.1) ∧ (∀ r ∈ ks, H r.1 = some (.tup (r.2.map kV))) ∧ D.length ≤ 60 ∧ (∀ r ∈ ks, r.2 ∈ D) ∧
  ∀ a L, H a = none → (∀ r ∈ L, r ∈ ks) → (∀ r ∈ ks, r.2 ∈ L.map Prod.snd) → (L.map Prod.snd).Nodup → Q (.ref a) (upd H a (SFO P w a L))
theorem cr_setF (hc : X.calm = true) (hu : X.A.units + 64 < cLine) : CallR X (.type "set") (rSetF X.K X.prog X.w) := by
  intro pins s σ H xs us Q I r h
  obtain ⟨l, ks, D, rfl, hl, hk, h60, hD, q⟩ := h
  obtain ⟨u, rfl, ru⟩ := vals1 r
  cases (show u = Value.ref l from ru)
  obtain ⟨its, rv, pl, hz⟩ := I.list hl
  refine call_setF (P := X.prog) (w := X.w) ks D h60 hD (I.ok.hd hc) pl.isList (by simpa using ref_vals rv) (fun r hr => bears_inv I (hk r hr)) (by omega) fun h' tk L es ep t R g k => ?_
  refine ⟨.ref s.heap.objs.size, upd H s.heap.objs.size (SFO X.prog X.w s.heap.objs.size L), I.laid (t' := tk) k (Nat.le_refl _) (sfo_ok R.zero), rfl, q _ L (I.hok.fresh (Nat.le_refl _)) (fun r hr => List.mem_of_mem_take (g.inn r hr)) (fun r hr => g.out r ?_) R.keys⟩
  rw [List.take_length]
  exact hr
/-- sorted(set) -/
def rSortF (P : Program) (w : World) (enc : List Key → PyData) : List V → Hp → VK → Prop := fun vs H Q => ∃ (a : Addr) (L : List Row1), vs = [V.ref a] ∧ H a = some (SFO P w a L) ∧ (∀ r ∈ L, H r.1 = some (.tup (r.2.map kV))) ∧
  (∀ r ∈ L, enc r.2 = .tuple (r.2.map fun y => match y with | .inl i => .int i | .inr x => .str x)) ∧ (∀ M : List (List Key), M.Perm (L.map Prod.snd) → PySem.W.AllAlike (M.map enc) ∧ PySem.W.Sortable (M.map enc)) ∧ (∀ r ∈ L, (enc r.2).depth ≤ 8) ∧
  ∀ (ys : List V) (p : Addr) (M : List (List Key)), M.Perm (L.map Prod.snd) → Paired (fun y k => ∃ q, y = V.ref q ∧ H q = some (.tup (k.map kV))) ys (M.mergeSort (PySem.W.dataLe false enc)) → H p = none → Q (.ref p) (upd H p (.lst ys))
theorem cr_sortF (hc : X.calm = true) (hu : X.A.units + 64 < cLine) {enc : List Key → PyData} : CallR X (.builtin "sorted") (rSortF X.prog X.w enc) := by
  intro pins s σ H vs us Q I r h
  obtain ⟨a, L, rfl, ha, hk, henc, hal, hdp, q⟩ := h
  obtain ⟨u, rfl, ru⟩ := vals1 r
  cases (show u = Value.ref a from ru)
  have R0 : SF0 X.prog X.w s.heap a L := (I.hok a _ ha).1
  obtain ⟨es, ep, t, R⟩ := R0.full fun r hr => bears_inv I (hk r hr)
  obtain ⟨o, ⟨ho, hex⟩, hd⟩ := R.obj
  have hsz := R.esz
  have hsm := R.small
  refine Calls.call_function_entry kind_sorted plain_sorted entry_sorted (args_sorted1 _) ?_
  unfold Builtin.«sorted»
  refine wpAny_bind (m := checkCount "sorted" 1 1 _) (wpAny_pure ?_)
  refine wpAny_bind (collect_set (A := X.A.in1) (I.ok.hd hc) ⟨o, ho, hex.1, hd⟩ R.fit (by unfold scanBound; omega) R.tab.ris R.led fun s1 vs k1 hz g1 o1 pm => ?_)
  have ees : es.toList.map (·.2) = L.map fun r => Value.ref r.1 := by
    rw [R.ent, List.map_map]
    rfl
  rw [ees] at pm
  obtain ⟨L1, p1, rfl⟩ := perm_lift _ L vs pm
  have len1 := p1.length_eq
  refine wpAny_bind (wpAny_newList ?_ (by rw [List.length_map, sizeLine_eq]; omega))
  have hoL : (s1.heap.push (seqObj "list" (L1.map fun r => Value.ref r.1).toArray 0)).get? s1.heap.objs.size = some (seqObj "list" (L1.map fun r => Value.ref r.1).toArray 0) := Heap.get?_push_size _ rfl
  have k2 : ∀ b o, s.heap.get? b = some o → (s1.heap.push (seqObj "list" (L1.map fun r => Value.ref r.1).toArray 0)).get? b = some o := fun b o e => Heap.get?_push_of_some _ (k1 b o e)
  have each : EachIs (fun u (k : List Key) => ∃ y, RelV y u ∧ ∃ q, y = V.ref q ∧ H q = some (.tup (List.map kV k))) (L1.map fun r => Value.ref r.1) (L1.map Prod.snd) := each_map2 _ _ _ fun r hr => ⟨.ref r.1, rfl, r.1, rfl, hk r (p1.mem_iff.mp hr)⟩
  obtain ⟨al1, al2⟩ := hal (L1.map Prod.snd) (p1.map Prod.snd)
  refine wpAny_bind (wpAny_holding (PySem.W.list_sort_data (s := { s1 with heap := s1.heap.push (seqObj "list" (L1.map fun r => Value.ref r.1).toArray 0) }) (enc := enc) (a := s1.heap.objs.size) (n := 0) hoL each ?_ al1 al2 (by rw [List.length_map, sizeLine_eq]; omega) (fun b hb => ?_) fun out ho1 ho2 => ?_))
  · refine each_map2 _ _ _ fun r hr => ⟨[], ?_, by simp⟩
    have hr := p1.mem_iff.mp hr
    rw [henc r hr]
    exact reads_bears ((R.each r hr).keep k2)
  · obtain ⟨r, hr, rfl⟩ := List.mem_map.mp hb
    have := hdp r (p1.mem_iff.mp hr)
    show X.A.units + 1 + 1 + _ < _
    omega
  · obtain ⟨ys, y1, y2⟩ := vals_each ho2
    obtain ⟨e', he'⟩ := PyProof.Rows.sortedHeap_at (vs := L1.map fun r => Value.ref r.1) (out := List.toArray out) hoL
    have hlen : ys.length ≤ sizeLine := by rw [y1.length, ho1, List.length_map, sizeLine_eq]; omega
    have old : ∀ b u, s.heap.get? b = some u → (sortedHeap (s1.heap.push (seqObj "list" (L1.map fun r => Value.ref r.1).toArray 0)) s1.heap.objs.size (L1.map fun r => Value.ref r.1) (List.toArray out)).get? b = some u := fun b u e => by
      have hb := Heap.lt_size (k1 b u e)
      rw [PyProof.Rows.sortedHeap_old (Nat.ne_of_lt hb) (by rw [size_push']; exact Nat.lt_succ_of_lt hb)]
      exact k2 b u e
    have hn : H s1.heap.objs.size = none := I.hok.fresh hz
    have J : Inv X pins σ (upd H s1.heap.objs.size (.lst ys)) { s with heap := _, gens := s1.gens, drawn := s1.drawn, toks := s1.toks } := I.call (ch := []) (Un.laid old hz hn) (I.hok.laid old hz ⟨hlen, out, e', y1, he'⟩) (by rw [g1]; exact I.bare) (fun _ z => nomatch z)
    refine wpAny_pure ⟨_, rfl, .ref s1.heap.objs.size, upd H s1.heap.objs.size (.lst ys), ?_, rfl, q ys _ _ (p1.map Prod.snd) y2 hn⟩
    have e : s1.os = s.os := o1
    obtain ⟨hh, gg, dd, tt, oo⟩ := s1
    have e : oo = s.os := e
    subst e
    exact J
end
end Wm
end
section
set_option Elab.async false
set_option linter.all false
set_option maxRecDepth 100000
set_option maxHeartbeats 4000000
/-! The law's own way to put one web behind another: walked. -/
namespace Wm
open PySem PySem.Spec PyProof.Rows L2 WmM
set_option autoImplicit false
/-! the faces of a shop differ -/
theorem nodup_flat {α : Type} (f : Nat → List α) (key : α → Nat) : ∀ n, (∀ i, (f i).Nodup) → (∀ i a, a ∈ f i → key a = i) → ((List.range n).flatMap f).Nodup
  | 0, _, _ => by simp
  | n + 1, h1, h2 => by
    rw [List.range_succ, List.flatMap_append, List.flatMap_singleton]
    refine List.nodup_append.mpr ⟨nodup_flat f key n h1 h2, h1 n, fun a ha b hb e => ?_⟩
    obtain ⟨i, hi, ha⟩ := List.mem_flatMap.mp ha
    have e1 := h2 i a ha
    have e2 := h2 n b hb
    rw [← e, e1] at e2
    have := List.mem_range.mp hi
    omega
def key1 : Fc → Nat
  | [_, .inl i, _, _] => i.toNat
  | _ => 0
def key2 : Fc → Nat
  | [_, _, .inl i, _] => i.toNat
  | _ => 0
theorem faces_nodup (S : Shp) : (facesOf S).Nodup := by
  unfold facesOf
  refine List.nodup_append.mpr ⟨nodup_flat _ key1 _ (fun i => ?_) (fun i a h => ?_), nodup_flat _ key1 _ (fun i => nodup_flat _ key2 _ (fun j => ?_) fun j a h => ?_) (fun i a h => ?_), fun a ha b hb e => ?_⟩
  · unfold dF
    refine List.Pairwise.map _ (fun a b h e => h ?_) (List.nodup_range (n := (S.ds.getD i (0, 0)).1.toNat))
    have : key2 (fDr i a) = key2 (fDr i b) := congrArg key2 e
    simpa [key2, fDr] using this
  · obtain ⟨c, _, rfl⟩ := List.mem_map.mp h
    rfl
  · refine List.nodup_cons.mpr ⟨fun h => ?_, List.nodup_cons.mpr ⟨fun h => (nomatch h), .nil⟩⟩
    have := List.mem_singleton.mp h
    injection this with _ h
    injection h with _ h
    injection h with _ h
    injection h with h _
    injection h with h
    exact absurd h (by decide +kernel)
  · rcases List.mem_cons.mp h with rfl | h
    · rfl
    · rw [List.mem_singleton.mp h]
      rfl
  · obtain ⟨c, _, h⟩ := List.mem_flatMap.mp h
    rcases List.mem_cons.mp h with rfl | h
    · rfl
    · rw [List.mem_singleton.mp h]
      rfl
  · obtain ⟨i, _, ha⟩ := List.mem_flatMap.mp ha
    obtain ⟨c, _, rfl⟩ := List.mem_map.mp ha
    obtain ⟨j, _, hb⟩ := List.mem_flatMap.mp hb
    obtain ⟨d, _, hb⟩ := List.mem_flatMap.mp hb
    have ne : ∀ s : Str, fDr i c ≠ fSt j d s := fun s h => by
      injection h with h _
      injection h with h
      exact absurd h (by decide +kernel)
    rcases List.mem_cons.mp hb with h | h
    · exact ne _ (e.trans h)
    · exact ne _ (e.trans (List.mem_singleton.mp h))
/-- what stands behind e1 by way of es2 -/
def BehRel (es2 : List (Fc × List Fc)) (e1 e : Fc × List Fc) : Prop := e.1 = e1.1 ∧ ∃ M : List Fc, e.2 = M.mergeSort leF ∧ M.Nodup ∧ ∀ g, g ∈ M ↔ ∃ m ∈ e1.2, ∃ e2 ∈ es2, e2.1 = m ∧ g ∈ e2.2
structure WebOk (S : Shp) (es : List (Fc × List Fc)) : Prop where
  fst : es.map (·.1) = facesOf S
  inn : ∀ e ∈ es, ∀ f ∈ e.2, f ∈ facesOf S
  len : ∀ e ∈ es, e.2.length ≤ 50
def sp_law_behind (K : PySem.W.Frag) : Sp := fun vs H Q _ => ∃ (l1 l2 : Addr) (S : Shp) (es1 es2 : List (Fc × List Fc)), vs = [.ref l1, .ref l2] ∧ SmallS S ∧ EntsAt H l1 es1 ∧ EntsAt H l2 es2 ∧ WebOk S es1 ∧ WebOk S es2 ∧
  ∀ H' l es, Same H H' → H l = none → EntsAt H' l es → Paired (BehRel es2) es1 es → Q (.ref l) H'
theorem ents_kvs {K : PySem.W.Frag} {H : Hp} : ∀ {ts : List Addr} {es : List (Fc × List Fc)}, Paired (EntAt H) ts es → ∃ kvs : List (Fc × V), Paired (PairT K H) ts kvs ∧ Paired (fun (kv : Fc × V) (e : Fc × List Fc) => kv.1 = e.1 ∧ ∃ l, kv.2 = .ref l ∧ FacesL H l e.2) kvs es
  | _, _, .nil => ⟨[], .nil, .nil⟩
  | _, _, .cons (b := e) ⟨b, l, h1, h2, h3⟩ t => by
    obtain ⟨kvs, r1, r2⟩ := ents_kvs t
    exact ⟨(e.1, .ref l) :: kvs, .cons ⟨b, SqT.of h1, h2⟩ r1, .cons ⟨rfl, l, rfl, h3⟩ r2⟩
theorem kvs_keys {H : Hp} : ∀ {kvs : List (Fc × V)} {es : List (Fc × List Fc)}, Paired (fun (kv : Fc × V) (e : Fc × List Fc) => kv.1 = e.1 ∧ ∃ l, kv.2 = .ref l ∧ FacesL H l e.2) kvs es → kvs.map (·.1) = es.map (·.1)
  | _, _, .nil => rfl
  | _, _, .cons h t => by
    rw [List.map_cons, List.map_cons, kvs_keys t, h.1]
theorem kvs_at {H : Hp} {m : Fc} : ∀ {kvs : List (Fc × V)} {es : List (Fc × List Fc)}, Paired (fun (kv : Fc × V) (e : Fc × List Fc) => kv.1 = e.1 ∧ ∃ l, kv.2 = .ref l ∧ FacesL H l e.2) kvs es → (es.map (·.1)).Nodup → m ∈ es.map (·.1) →
    ∃ e l, valV kvs m = some (.ref l) ∧ e ∈ es ∧ e.1 = m ∧ FacesL H l e.2 ∧ ∀ e' ∈ es, e'.1 = m → e' = e
  | _, _, .nil, _, h => nomatch h
  | kv :: kvs, e :: es, .cons ⟨h1, l, h2, h3⟩ t, nd, h => by
    rw [List.map_cons, List.nodup_cons] at nd
    by_cases c : e.1 = m
    · refine ⟨e, l, by rw [valV_pos (h1.trans c), h2], .head _, c, h3, fun e' h' c' => ?_⟩
      rcases List.mem_cons.mp h' with z | z
      · exact z
      · exact absurd (List.mem_map.mpr ⟨e', z, c'.trans c.symm⟩) nd.1
    · rw [List.map_cons] at h
      rcases List.mem_cons.mp h with z | z
      · exact absurd z.symm c
      · obtain ⟨e2, l2, a1, a2, a3, a4, a5⟩ := kvs_at t nd.2 z
        refine ⟨e2, l2, by rw [valV_neg (fun z => c (h1.symm.trans z)), a1], .tail _ a2, a3, a4, fun e' h' c' => ?_⟩
        rcases List.mem_cons.mp h' with z | z
        · rw [z] at c'
          exact absurd c' c
        · exact a5 e' z c'
theorem rows_of {H : Hp} : ∀ {as : List Addr} {fs : List Fc}, TupsAt H as fs → ∃ ks : List Row1, (ks.map fun r => V.ref r.1) = as.map V.ref ∧ ks.map Prod.snd = fs ∧ ∀ r ∈ ks, H r.1 = some (.tup (r.2.map kV))
  | _, _, .nil => ⟨[], rfl, rfl, fun _ h => nomatch h⟩
  | a :: as, f :: fs, .cons h t => by
    obtain ⟨ks, e1, e2, e3⟩ := rows_of t
    refine ⟨(a, f) :: ks, by rw [List.map_cons, List.map_cons, e1], by rw [List.map_cons, e2], fun r hr => ?_⟩
    rcases List.mem_cons.mp hr with e | hr
    · rw [e]
      exact h
    · exact e3 r hr
section
variable {P : Program} {w : World} {K : PySem.W.Frag} {mg : Str → Option Value} {base : Heap}
theorem ok_law_behind (T : Tx K mg) : Dn P w K mg base 1 (He.ga K "_law_behind") ["_law_one_here", "_law_other"] (sp_law_behind K) := by
  refine dn_of T.F_law_behind sc_law_behind (fun _ _ _ _ _ _ us hl => match us, hl with | [_, _], _ => rfl) (fun vs H Q E h => ?_) (fun cdv A outer s H vs Q E hr h => ?_)
  · obtain ⟨_, _, _, _, _, rfl, _⟩ := h
    rfl
  · obtain ⟨l1, l2, S, es1, es2, rfl, SS, ⟨ts1, h1, p1⟩, ⟨ts2, h2, p2⟩, W1, W2, k⟩ := h
    have OF := facesOf_ok SS.ok
    have nd := faces_nodup S
    obtain ⟨kvs, q1, q2⟩ := ents_kvs (K := K) p2
    have kk := kvs_keys q2
    have l50 := SS.len
    refine ⟨_, (pss_cons (ps_set (i := 2) sc_law_behind.nd rfl (.inl rfl) (pe_callTy (cr_dictP rfl hr.units) (by rfl) T.n_dict (by decide +kernel) (pa_cons (pv 1) pa_nil))) (pss_cons (ps_set (i := 3) sc_law_behind.nd rfl (.inl rfl) (pe_lst pa_nil)) (pss_cons (ps_for PassesOwn.never rfl (pi_list (pv 0)) (pg_tup (by rfl) (pgs_cons (pg_name (i := 4) sc_law_behind.nd rfl (.inl rfl)) (pgs_cons (pg_name (i := 5) sc_law_behind.nd rfl (.inl rfl)) pgs_nil))) (pss_cons (ps_set (i := 6) sc_law_behind.nd rfl (.inl rfl) (pe_lst pa_nil)) (pss_cons (ps_for PassesOwn.never rfl (pi_list (pv 5)) (pg_name (i := 7) sc_law_behind.nd rfl (.inl rfl)) (pss_one (ps_set (i := 6) sc_law_behind.nd rfl (.inl rfl) (pe_op op_cat (pv 6) (pe_dget (hu_of hr) (pv 2) (pv 7) (fun _ _ => rfl)))))) (pss_one (ps_expr (pe_bm PySem.F.plainAttrs_list PySem.F.slot_list_append PySem.F.type_list_append mt_append (pv 3) (pa_cons (pe_tup (pa_cons (pv 4) (pa_cons (pe_callB (cr_sortF (enc := faceD) rfl hr.units) (by rfl) T.n_sorted (by decide +kernel) (pa_cons (pe_callTy (cr_setF rfl hr.units) (by rfl) T.n_set (by decide +kernel) (pa_cons (pv 6) pa_nil)) pa_nil)) pa_nil))) pa_nil))))))) (pss_one (ps_ret (pv 3)))))), ?_⟩
    refine ⟨_, rfl, l2, ts2, kvs, rfl, SqL.of h2, q1, by rw [kk, W2.fst]; exact nd, fun D hD => ?_⟩
    have s1 : Same H (upd H D (.dT kvs)) := Same.new hD
    have hD1 : upd H D (.dT kvs) D = some (.dT kvs) := upd_same
    generalize upd H D (.dT kvs) = H1 at s1 hD1 ⊢
    refine ⟨Nat.zero_le _, fun q hq => ?_⟩
    have s2 : Same H1 (upd H1 q (.lst [])) := Same.new hq
    have hq2 : upd H1 q (.lst []) q = some (.lst []) := upd_same
    have q0 : H q = none := s1.free hq
    have s12 := s1.trans s2
    generalize upd H1 q (.lst []) = H2 at s2 hq2 s12 ⊢
    have lt1 := Paired.length p1
    have le1 : es1.length = (facesOf S).length := by rw [← W1.fst, List.length_map]
    refine ⟨_, rfl, l1, rfl, ⟨_, SqL.of (s12 _ _ h1)⟩, for_it walk_listF (fun i σ H' => (∃ x4 x5 x6 x7, σ = [some (.ref l1), some (.ref l2), some (.ref D), some (.ref q), x4, x5, x6, x7]) ∧ (Same H H' ∧ H' D = some (.dT kvs)) ∧ ∃ ts es, H' q = some (.lst (ts.map V.ref)) ∧ Paired (EntD q H') ts es ∧ Paired (BehRel es2) (es1.take i) es ∧ ts.length = i)
      ⟨⟨_, _, _, _, rfl⟩, ⟨s12, s2 _ _ hD1⟩, [], [], hq2, .nil, .nil, rfl⟩ (fun i σ H' _ z => SqL.of (z.2.1.1 _ _ h1)) ?_ ?_⟩
    · rintro i x σ H3 H4 hi ⟨⟨x4, x5, x6, x7, rfl⟩, ⟨s3, hD3⟩, ts, es, hq3, pe3, pb3, lt3⟩ ⟨rfl, t, e2, rfl⟩
      obtain ⟨e1, e3, b, lf, t1, t2, fas, t3, t4⟩ := paired_get p1 e2
      have e1m := List.mem_of_getElem? e3
      refine ⟨t, _, rfl, SqT.of (s3 _ _ t1), rfl, _, _, rfl, _, _, rfl, rfl, ?_⟩
      refine ⟨Nat.zero_le _, fun z hz => ?_⟩
      have s4 : Same H4 (upd H4 z (.lst [])) := Same.new hz
      have hz4 : upd H4 z (.lst []) z = some (.lst []) := upd_same
      generalize upd H4 z (.lst []) = H5 at s4 hz4 ⊢
      have lfs := Paired.length t4
      have l5 := W1.len e1 e1m
      refine ⟨_, rfl, lf, rfl, ⟨_, SqL.of (s4 _ _ (s3 _ _ t3))⟩, for_it walk_listF (fun j σ H' => (∃ z x7, σ = [some (.ref l1), some (.ref l2), some (.ref D), some (.ref q), some (.ref b), some (.ref lf), some (.ref z), x7] ∧ ∃ as gs, H' z = some (.lst (as.map V.ref)) ∧ TupsAt H' as gs ∧ gs.length ≤ j * 50 ∧ ∀ g, g ∈ gs ↔ ∃ m ∈ e1.2.take j, ∃ e2 ∈ es2, e2.1 = m ∧ g ∈ e2.2) ∧ Same H4 H')
        ⟨⟨z, _, rfl, [], [], hz4, .nil, Nat.zero_le _, fun g => by simp⟩, s4⟩ (fun j σ H' _ z => SqL.of (z.2 _ _ (s3 _ _ t3))) ?_ ?_⟩
      · rintro j x σ H6 H7 hj ⟨⟨z6, x7, rfl, as, gs, hz6, tg6, lg6, mg6⟩, s6⟩ ⟨rfl, fa, ef, rfl⟩
        obtain ⟨m, em, hm0⟩ := paired_get t4 ef
        have mF := W1.inn e1 e1m m (List.mem_of_getElem? em)
        have s36 := s3.trans s6
        have hm : TupF H7 fa m := s36 _ _ hm0
        obtain ⟨e2', l', v1, v2, v3, ⟨as2, v4, v5⟩, v6⟩ := kvs_at q2 (by rw [W2.fst]; exact nd) (by rw [W2.fst]; exact mF)
        have l2' := W2.len e2' v2
        have la2 := Paired.length v5
        have la1 := Paired.length tg6
        refine ⟨_, rfl, _, rfl, _, rfl, D, _, rfl, .inr ⟨kvs, m, fa, .inl (s6 _ _ hD3), rfl, hm, v1.symm⟩, z6, l', _, _, rfl, rfl, hz6, s36 _ _ v4, by rw [List.length_map, List.length_map]; have : j * 50 ≤ 50 * 50 := Nat.mul_le_mul_right 50 (by omega); exact Nat.le_of_lt (small9 (by omega)), fun p hp => ?_⟩
        refine ⟨⟨p, _, rfl, as ++ as2, gs ++ e2'.2, by rw [upd_same, List.map_append], paired_app (tg6.tk (TK.new hp)) (TupsAt.tk (TK.same (s36.over (s36.free hp))) v5), by rw [List.length_append, Nat.add_mul]; omega, fun g => ?_⟩, s6.over (s6.free hp)⟩
        rw [List.mem_append, mg6 g, List.take_add_one, em]
        constructor
        · rintro (⟨m', a1, a2⟩ | h)
          · exact ⟨m', List.mem_append_left _ a1, a2⟩
          · exact ⟨m, List.mem_append_right _ (.head _), e2', v2, v3, h⟩
        · rintro ⟨m', a1, e', a2, a3, a4⟩
          rcases List.mem_append.mp a1 with a1 | a1
          · exact .inl ⟨m', a1, e', a2, a3, a4⟩
          · have : m' = m := List.mem_singleton.mp a1
            rw [v6 e' a2 (a3.trans this)] at a4
            exact .inr a4
      · rintro σ H6 ⟨⟨z6, x7, rfl, as, gs, hz6, tg6, lg6, mg6⟩, s6⟩
        rw [lfs, List.take_length] at mg6
        have s36 := s3.trans s6
        have hq6 := s6 _ _ hq3
        obtain ⟨ks, r1, r2, r3⟩ := rows_of tg6
        have inF : ∀ g ∈ gs, g ∈ facesOf S := fun g hg => by
          obtain ⟨m, _, e', a2, _, a4⟩ := (mg6 g).mp hg
          exact W2.inn e' a2 g a4
        have inF2 : ∀ r ∈ ks, r.2 ∈ facesOf S := fun r hr => inF _ (by rw [← r2]; exact List.mem_map_of_mem hr)
        refine ⟨_, rfl, .inl ⟨rfl, _, SqL.of hq6⟩, _, rfl, _, rfl, z6, ks, facesOf S, rfl, by rw [r1]; exact SqL.of hz6, r3, by omega, inF2, fun a L ha m1 m2 m3 => ?_⟩
        generalize hso : SFO _ _ a L = so
        have s7 : Same H6 (upd H6 a so) := Same.new ha
        have ha7 : upd H6 a so a = some so := upd_same
        generalize upd H6 a so = H7 at s7 ha7 ⊢
        have inL : ∀ g, g ∈ L.map Prod.snd ↔ g ∈ gs := fun g => by
          constructor
          · intro h
            obtain ⟨r, hr, rfl⟩ := List.mem_map.mp h
            rw [← r2]
            exact List.mem_map_of_mem (m1 r hr)
          · intro h
            rw [← r2] at h
            obtain ⟨r, hr, rfl⟩ := List.mem_map.mp h
            exact m2 r hr
        have inLF : ∀ M : List Fc, M.Perm (L.map Prod.snd) → ∀ g ∈ M, g ∈ facesOf S := fun M pm g hg => inF g ((inL g).mp (pm.mem_iff.mp hg))
        refine ⟨a, L, rfl, by rw [ha7, ← hso], fun r hr => s7 _ _ (r3 r (m1 r hr)), fun r _ => rfl, fun M pm => ⟨(faces_data OF (inLF M pm)).1, (faces_data OF (inLF M pm)).2.1⟩, fun r hr => (faces_data OF (inLF _ (.refl _))).2.2 _ (List.mem_map_of_mem hr), fun ys r M pm pr hr => ⟨by show 2 ≤ sizeLine; decide, fun t' ht => ?_⟩⟩
        obtain ⟨rs, rfl, prs⟩ := paired_refs pr
        have s8 : Same H7 (upd (upd H7 r (.lst (rs.map V.ref))) t' (.tup [.ref b, .ref r])) := (Same.new hr).trans (Same.new ht)
        have hr8 : upd (upd H7 r (.lst (rs.map V.ref))) t' (.tup [.ref b, .ref r]) r = some (.lst (rs.map V.ref)) := kept upd_same ht
        have ht8 : upd (upd H7 r (.lst (rs.map V.ref))) t' (.tup [.ref b, .ref r]) t' = some (.tup [.ref b, .ref r]) := upd_same
        generalize upd (upd H7 r (.lst (rs.map V.ref))) t' (.tup [.ref b, .ref r]) = H8 at s8 hr8 ht8 ⊢
        have s48 : Same H4 H8 := s6.trans (s7.trans s8)
        have s38 : Same H H8 := s3.trans s48
        have hq8 := s48 _ _ hq3
        have nrq : r ≠ q := (ne_of_none (s7 _ _ hq6) hr).symm
        have tk9 : TK H8 (upd H8 q (.lst (ts.map V.ref ++ [.ref t']))) := TK.lst hq8
        refine ⟨q, _, _, rfl, rfl, hq8, by rw [List.length_map, lt3]; exact small9 (by omega), ⟨_, _, _, _, rfl⟩, ⟨fun c o e => ?_, ?_⟩, ts ++ [t'], es ++ [(e1.1, M.mergeSort leF)], by rw [upd_same, List.map_append]; rfl, ?_, ?_, by rw [List.length_append, lt3]; rfl⟩
        · rw [upd_ne (ne_of_none e q0)]
          exact s38 _ _ e
        · rw [upd_ne (ne_of (s48 _ _ hD3) hq8 fun z => nomatch z)]
          exact s48 _ _ hD3
        · refine paired_app (paired_imp (fun t' e ⟨b', l', n', x1, x2, fs, x3, x4⟩ => ?_) pe3) (.cons ⟨b, r, nrq, tk9 _ _ ht8, tk9 _ _ (s38 _ _ t2), rs, by rw [upd_ne nrq]; exact hr8, TupsAt.tk tk9 (TupsAt.tk (TK.same s8) prs)⟩ .nil)
          exact ⟨b', l', n', tk9 _ _ (s48 _ _ x1), tk9 _ _ (s48 _ _ x2), fs, by rw [upd_ne n']; exact s48 _ _ x3, TupsAt.tk tk9 (TupsAt.tk (TK.same s48) x4)⟩
        · rw [List.take_add_one, e3]
          exact paired_app pb3 (.cons ⟨rfl, M, rfl, pm.nodup_iff.mpr m3, fun g => by rw [pm.mem_iff, inL g, mg6 g]⟩ .nil)
    · rintro σ H3 ⟨⟨x4, x5, x6, x7, rfl⟩, ⟨s3, hD3⟩, ts, es, hq3, pe3, pb3, lt3⟩
      rw [lt1, List.take_length] at pb3
      exact ⟨_, rfl, k H3 q es s3 q0 ⟨ts, hq3, paired_imp (fun t e ⟨b, l, _, h⟩ => ⟨b, l, h⟩) pe3⟩ pb3⟩
end
end Wm
end
section
set_option Elab.async false
set_option linter.all false
set_option maxRecDepth 100000
set_option maxHeartbeats 4000000
/-! Rows as data: what repr shows. -/
namespace Wm
open PySem PySem.Spec PyProof.Rows L2 WmM
set_option autoImplicit false
def plyDa (p : Ply) : PyData := .tuple [.int p.s, .str p.e, .str p.d]
def deedDa : Deed → PyData
  | .opn b => .tuple [.str "open", .int b]
  | .roll d ps b => .tuple [.str "roll", .int d, .list (ps.map plyDa), .int b]
def rowDa (row : List Deed) : PyData := .list (row.map deedDa)
theorem dp_refs {K : PySem.W.Frag} {H : Hp} {β : Type} {R : Addr → β → Prop} {g : β → PyData} (h : ∀ a b, R a b → Dp K H (.ref a) (g b)) : ∀ {as : List Addr} {bs : List β}, Paired R as bs → DpAll K H (as.map V.ref) (bs.map g)
  | _, _, .nil => .nil
  | _, _, .cons r t => .cons (h _ _ r) (dp_refs h t)
theorem paired_unmap {α β γ : Type} {R : α → γ → Prop} {f : β → γ} : ∀ {as : List α} {bs : List β}, Paired R as (bs.map f) → Paired (fun a b => R a (f b)) as bs
  | [], [], _ => .nil
  | _ :: _, _ :: _, .cons r t => .cons r (paired_unmap t)
  | _ :: _, [], h => nomatch h
  | [], _ :: _, h => nomatch h
theorem dp_plies {K : PySem.W.Frag} {H : Hp} {l : Addr} {ps : List Ply} (h : PliesAt H l ps) : Dp K H (.ref l) (.list (ps.map plyDa)) := by
  obtain ⟨as, h1, h2⟩ := h
  exact .lst (SqL.of h1) (dp_refs (fun a p e => .tup (SqT.of (show H a = some (.tup [.int p.s, .str p.e, .str p.d]) from e)) (.cons (.int _) (.cons (.str _) (.cons (.str _) .nil)))) (paired_unmap h2))
theorem dp_deed {K : PySem.W.Frag} {H : Hp} {a : Addr} {d : Deed} (h : DeedAt H a d) : Dp K H (.ref a) (deedDa d) := by
  cases d with
  | opn b => exact .tup (SqT.of (show H a = some (.tup [.str "open", .int b]) from h)) (.cons (.str _) (.cons (.int _) .nil))
  | roll d ps b =>
    obtain ⟨l, h1, h2⟩ := h
    exact .tup (SqT.of h1) (.cons (.str _) (.cons (.int _) (.cons (dp_plies h2) (.cons (.int _) .nil))))
theorem dp_row {K : PySem.W.Frag} {H : Hp} {l : Addr} {row : List Deed} (h : RowAt H l row) : Dp K H (.ref l) (rowDa row) := by
  obtain ⟨as, h1, h2⟩ := h
  exact .lst (SqL.of h1) (dp_refs (fun a d e => dp_deed e) h2)
structure Gd (d : PyData) (k W : Nat) : Prop where
  sh : d.showable = true
  nd : d.hasDict = false
  lf : d.leavesShort 40 = true
  dp : d.depth ≤ k
  wt : d.weight ≤ W
theorem Gd.mono {d : PyData} {k W k' W' : Nat} (h : Gd d k W) (h1 : k ≤ k') (h2 : W ≤ W') : Gd d k' W' := ⟨h.sh, h.nd, h.lf, Nat.le_trans h.dp h1, Nat.le_trans h.wt h2⟩
theorem gd_all {k W : Nat} : ∀ (xs : List PyData), (∀ x ∈ xs, Gd x k W) → PyData.showableAll xs = true ∧ PyData.hasDictAll xs = false ∧ PyData.leavesShortAll 40 xs = true ∧ PyData.depthAll xs ≤ k ∧ PyData.weightAll xs ≤ xs.length * (W + 1)
  | [], _ => ⟨rfl, rfl, rfl, Nat.zero_le _, Nat.zero_le _⟩
  | x :: xs, h => by
    obtain ⟨a1, a2, a3, a4, a5⟩ := gd_all xs fun y hy => h y (.tail _ hy)
    have g := h x (.head _)
    refine ⟨?_, ?_, ?_, Nat.max_le.mpr ⟨g.dp, a4⟩, ?_⟩
    · show (x.showable && PyData.showableAll xs) = true
      rw [g.sh, a1]
      rfl
    · show (x.hasDict || PyData.hasDictAll xs) = false
      rw [g.nd, a2]
      rfl
    · show (x.leavesShort 40 && PyData.leavesShortAll 40 xs) = true
      rw [g.lf, a3]
      rfl
    · have := g.wt
      show x.weight + 1 + PyData.weightAll xs ≤ (xs.length + 1) * (W + 1)
      rw [Nat.add_mul]
      omega
theorem gd_list {k W n : Nat} {xs : List PyData} (h : ∀ x ∈ xs, Gd x k W) (l : xs.length ≤ n) : Gd (.list xs) (k + 1) (n * (W + 1)) := by
  obtain ⟨a1, a2, a3, a4, a5⟩ := gd_all xs h
  exact ⟨a1, a2, a3, Nat.succ_le_succ a4, Nat.le_trans a5 (Nat.mul_le_mul_right _ l)⟩
theorem gd_tup {k W n : Nat} {xs : List PyData} (h : ∀ x ∈ xs, Gd x k W) (l : xs.length ≤ n) : Gd (.tuple xs) (k + 1) (n * (W + 1)) := by
  obtain ⟨a1, a2, a3, a4, a5⟩ := gd_all xs h
  exact ⟨a1, a2, a3, Nat.succ_le_succ a4, Nat.le_trans a5 (Nat.mul_le_mul_right _ l)⟩
theorem gd_int {i : Int} (h0 : 0 ≤ i) (h1 : i ≤ 10 ^ 20) : Gd (.int i) 0 70 := by
  have hl : i.natAbs.log2 < 69 := by
    by_cases e : i.natAbs = 0
    · rw [e]
      decide
    · refine (Nat.log2_lt e).mpr ?_
      omega
  refine ⟨decide_eq_true (by omega), rfl, decide_eq_true ?_, Nat.le_refl _, ?_⟩
  · have e := int_text_length_le10 (a := i) (k := 21) (by decide) (by omega)
    show (Str.ofString (toString i)).length ≤ 40
    rw [PySem.ofString_length]
    omega
  · show (if i == 0 then 0 else i.natAbs.log2 + 1) ≤ 70
    split <;> omega
theorem gd_str {x : Str} (h1 : x.cps.size ≤ 70) (h2 : (x.cps.toList.all fun c => decide (c < 16 ^ 8)) = true) : Gd (.str x) 0 70 := ⟨rfl, rfl, h2, Nat.le_refl _, h1⟩
theorem gd_ply {S : Shp} {p : Ply} (O : ShpOk S) (h : PlyOk S p) : Gd (plyDa p) 1 213 := by
  have h0 := h.s0
  have h1 := h.s1
  have := O.l2
  refine gd_tup (k := 0) (W := 70) (n := 3) (fun x hx => ?_) (Nat.le_refl 3)
  rcases List.mem_cons.mp hx with rfl | hx
  · exact gd_int h0 (by omega)
  rcases List.mem_cons.mp hx with rfl | hx
  · rcases h.e with e | e <;> rw [e] <;> exact gd_str (by decide +kernel) (by decide +kernel)
  · rw [List.mem_singleton.mp hx]
    rcases h.d with e | e <;> rw [e] <;> exact gd_str (by decide +kernel) (by decide +kernel)
theorem gd_deed {S : Shp} {d : Deed} (O : ShpOk S) (h : DeedOk S d) (hb : d.b ≤ 10 ^ 20) : Gd (deedDa d) 3 3000 := by
  cases d with
  | opn b =>
    refine Gd.mono (k := 1) (W := 142) (gd_tup (k := 0) (W := 70) (n := 2) (xs := [.str "open", .int b]) (fun x hx => ?_) (Nat.le_refl 2)) (by decide) (by decide)
    rcases List.mem_cons.mp hx with rfl | hx
    · exact gd_str (by decide +kernel) (by decide +kernel)
    · rw [List.mem_singleton.mp hx]
      exact gd_int h hb
  | roll d ps b =>
    obtain ⟨o1, o2, o3, o4⟩ := h
    have := O.d2
    refine Gd.mono (k := 3) (W := 2572) (gd_tup (k := 2) (W := 642) (n := 4) (xs := [.str "roll", .int d, .list (ps.map plyDa), .int b]) (fun x hx => ?_) (Nat.le_refl 4)) (by decide) (by decide)
    rcases List.mem_cons.mp hx with rfl | hx
    · exact (gd_str (by decide +kernel) (by decide +kernel)).mono (by decide) (by decide)
    rcases List.mem_cons.mp hx with rfl | hx
    · exact (gd_int o2 (by omega)).mono (by decide) (by decide)
    rcases List.mem_cons.mp hx with rfl | hx
    · refine gd_list (k := 1) (W := 213) (n := 3) (fun x hx => ?_) (by rw [List.length_map]; exact o4.l2)
      obtain ⟨p, hp, rfl⟩ := List.mem_map.mp hx
      exact gd_ply O (o4.ok p hp)
    · rw [List.mem_singleton.mp hx]
      exact (gd_int o1 hb).mono (by decide) (by decide)
theorem gd_row {S : Shp} {row : List Deed} (O : ShpOk S) (h : RowSm S row) : Gd (rowDa row) 4 9003 :=
  gd_list (k := 3) (W := 3000) (n := 3) (fun x hx => by
    obtain ⟨d, hd, rfl⟩ := List.mem_map.mp hx
    exact gd_deed O (h.2 d hd).1 (h.2 d hd).2) (by rw [List.length_map]; exact h.1)
/-- the two rows as repr shows them -/
theorem gd_two {S : Shp} {r1 r2 : List Deed} (O : ShpOk S) (h1 : RowSm S r1) (h2 : RowSm S r2) : Gd (.tuple [rowDa r1, rowDa r2]) 5 18008 :=
  gd_tup (k := 4) (W := 9003) (n := 2) (fun x hx => by
    rcases List.mem_cons.mp hx with rfl | hx
    · exact gd_row O h1
    · rw [List.mem_singleton.mp hx]
      exact gd_row O h2) (Nat.le_refl 2)
theorem Gd.size {d : PyData} {k : Nat} (h : Gd d k 18008) : d.shown.length ≤ sizeLine := by
  have h1 := PyData.shown_le 40 (by decide) d h.lf
  have h2 := h.wt
  rw [sizeLine_eq]
  omega
end Wm
end
section
set_option Elab.async false
set_option linter.all false
set_option maxRecDepth 100000
set_option maxHeartbeats 4000000
/-! A def that asks repr: where no repr runs around. -/
namespace Wm
open PySem PySem.Spec PyProof.Rows L2
set_option autoImplicit false
/-- f's code keeps the promise wherever no repr runs -/
structure FnG (P : Program) (w : World) (K : PySem.W.Frag) (mg : Str → Option Value) (base : Heap) (k : Nat) (f : Addr) (fd : FuncData) (ps : List Str) (sp : Sp) : Prop where
  go : ∀ (A : Around) (out : List Env) (s : Shared) (H : Hp) (args : Args) (us : List Value) (vs : List V) (Q : VK) (E : XK), A.guards = some [] → Room k A → Env0 P w K mg base A out s H → BindsTo s fd args (ps.zip us) → Vals vs us → sp vs H Q E →
    codeAny (model P w) A (.call (.ref f) args) (CR CX0 out P w H s Q E) s
theorem fnG_of {P : Program} {w : World} {K : PySem.W.Frag} {mg : Str → Option Value} {base : Heap} {x qual : Str} {params : Arguments} {body : List Stmt} {scope : Scope} {f : Addr} {fd : FuncData} {N ps : List Str} {k : Nat} {sp : Sp} (F : FunD K x qual params body scope [] [] f fd) (S : FnScope N ps scope)
    (len : ∀ vs H Q E, sp vs H Q E → vs.length = ps.length)
    (hb : ∀ (cdv : Value) (A : Around) (out : List Env) (s : Shared) (H : Hp) (vs : List V) (Q : VK) (E : XK), (A.deeper (envOfC qual scope s.heap.objs.size f cdv)).guards = some [] → Room k (A.deeper (envOfC qual scope s.heap.objs.size f cdv)) → sp vs H Q E →
      ∃ t, PSs (cxOf CX0 P w K mg base N qual scope f cdv A out s H E) body t ∧ t { nx := fun _ H' => Q .non H', rt := Q } (start N vs) H) : FnG P w K mg base (k + 1) f fd ps sp := by
  obtain ⟨oc, od, dV, kV, doc, pm, an, cdv, ct, osl, rfl, look, inC, _, _⟩ := F.ex
  refine ⟨fun A out s H args us vs Q E hg hr e0 bind rv hsp => ?_⟩
  have inK : K.In s.heap := e0.mod.kin.keeps fun b o e => (e0.bs b o e).1
  have noLim : s.heap.NoLimit := e0.mod.nolimit.keeps fun b o e => (e0.bs b o e).1
  have kinds : ∀ y ∈ ps.zip us, scope.names.lookup y.1 = some .local ∨ (scope.names.lookup y.1 = some .cell ∧ ((cellsFrom (s.heap.objs.size + 1) scope.names []).lookup y.1).isSome = true) := fun y hy =>
    (S.par y.1 (List.of_mem_zip (show (y.1, y.2) ∈ ps.zip us from hy)).1).imp id fun q => ⟨q, PySem.W.cellsFrom_some _ _ _ (.inl q)⟩
  refine codeAny_call_function hr.depth (inK _ _ look) rfl S.co S.gen rfl (PySem.W.codeRec_of inK inC) (bind _ _ _ _ ?_)
  refine wpAny_newFunctionEnv_cells S.kind kinds fun env ee s1 x => ?_
  subst ee
  refine ⟨noLim.keeps x.toInCall.keep, codeAny_func ?_⟩
  obtain ⟨t, ht, q⟩ := hb cdv A out s H vs Q E hg (hr.deeper _) hsp
  have J0 : Inv (cxOf CX0 P w K mg base N qual scope f cdv A out s H E) [] (start N vs) H s1 := inv_start S hr.hd e0 (len _ _ _ _ hsp) rv x
  refine wpAny_mono (ht.run [] s1 (start N vs) H _ J0 q) (fun fl z hz => ?_) fun e z hz => hz
  match fl, hz with
  | .ret u, ⟨v, σ', H', J, r, q'⟩ => exact ⟨v, H', J.os, J.bare, J.base, J.hok, r, q'⟩
  | .next, ⟨σ', H', J, q'⟩ => exact ⟨.non, H', J.os, J.bare, J.base, J.hok, (rfl : RelV .non .none), q'⟩
  | .brk, ⟨_, _, _, q'⟩ => exact q'.elim
  | .cont, ⟨_, _, _, q'⟩ => exact q'.elim
end Wm
end
section
set_option Elab.async false
set_option linter.all false
set_option maxRecDepth 100000
set_option maxHeartbeats 4000000
/-! The law's call, its def asking repr. -/
namespace Wm
open PySem PySem.Spec PyProof.Rows L2
set_option autoImplicit false
theorem callG {P : Program} {w : World} {K : PySem.W.Frag} {mg mb : Str → Option Value} {k : Nat} {fa a : Addr} {fd : FuncData} {x : Str} {sp : Sp} {s : Shared} {vs : List Value} {ns : List Int}
    (inK : K.In s.heap) (gl : s.heap.Ns mainGlobals mg) (bn : s.heap.Ns builtinsNs mb) (boot : ∀ y : Str, y ≠ "__name__" → mb y = bootBuiltins y) (lim : s.heap.NoLimit) (gens : s.gens = #[])
    (ha : s.heap.get? a = some { cls := .type "list", data := .seq vs.toArray }) (hi : IntsAre vs ns) (hl : ns.length ≤ sizeLine) (hr : Room k callerA)
    (F : ∀ base : Heap, K.In base → base.Ns mainGlobals mg → FnG P w K mg base k fa fd [x] sp) (bind : ∀ (z : Shared) (u : Value), BindsTo z fd ⟨[u], []⟩ [(x, u)])
    (hsp : ∀ H : Hp, Only H → SqL K H a (ns.map V.int) → sp [.ref a] H (fun v _ => v = .bl true) fun _ _ _ => False) :
    codeAny (model P w) callerA (.call (.ref fa) ⟨[.ref a], []⟩) (fun r z => r = .ok (.ret (.bool true)) ∧ OldK s.heap z.heap ∧ z.os = s.os ∧ AllBare z.gens) s := by
  have rel := vals_ints hi
  have ll := hi.length
  have key : ∀ H : Hp, Only H → SqL K H a (ns.map V.int) → HOk P w H s.heap → (∀ b, H b ≠ none → b = a ∧ K.lookup a = none) →
      codeAny (model P w) callerA (.call (.ref fa) ⟨[.ref a], []⟩) (fun r z => r = .ok (.ret (.bool true)) ∧ OldK s.heap z.heap ∧ z.os = s.os ∧ AllBare z.gens) s := by
    intro H only sq ok at_
    have hid : ∀ {b : Addr} {o : Obj}, s.heap.get? b = some o → H b = none → (hidT s.heap H).get? b = some o := fun e n => hidT_get e n
    have dict : ∀ {b : Addr} {o : Obj} {es : Array DictEntry} {ep : Nat}, s.heap.get? b = some o → o.data = .dict es ep → H b = none := fun {b o es ep} e d => by
      refine Classical.byContradiction fun q => ?_
      obtain ⟨rfl, _⟩ := at_ b q
      rw [ha] at e
      rw [← Option.some.inj e] at d
      exact nomatch d
    have nsOf : ∀ {b : Addr} {m : Str → Option Value}, s.heap.Ns b m → (hidT s.heap H).Ns b m := fun {b m} ⟨o, es, ep, e, d, r⟩ => ⟨o, es, ep, hid e (dict e d), d, r⟩
    have inB : K.In (hidT s.heap H) := fun b o e => hid (inK b o e) (Classical.byContradiction fun q => by
      obtain ⟨rfl, z⟩ := at_ b q
      rw [z] at e
      exact nomatch e)
    obtain ⟨mc, c1, c2⟩ := lim
    have e0 : Env0 P w K mg (hidT s.heap H) callerA [] s H := ⟨rfl, ⟨inB, nsOf gl, ⟨mb, nsOf bn, boot⟩, ⟨mc, nsOf c1, c2⟩⟩, fun b o e => of_hidT e, Nat.le_of_eq (hidT_size _ _), trivial, fun b hb => absurd (show b ∈ ([] : List Addr) from hb) (by simp), ok, .of_eq gens⟩
    refine codeAny_mono ((F _ inB (nsOf gl)).go callerA [] s H ⟨[.ref a], []⟩ [.ref a] [.ref a] _ _ rfl hr e0 (bind s (.ref a)) (.cons rfl .nil) (hsp H only sq)) fun r z h => ?_
    match r, h with
    | .error e, h => exact (show False from h).elim
    | .ok (.ret u), ⟨v, H', os, bare, un, ok', rv, (q : v = .bl true)⟩ =>
      subst q
      obtain rfl : u = Value.bool true := rv
      refine ⟨rfl, OldK.of_keep fun b o e => ?_, os, bare⟩
      rcases only b with n | ⟨ob, xs, n⟩
      · exact un.keep b o e n (by intro y; exact absurd (show b ∈ ([] : List Addr) from y) (by simp)) (by simp)
      · obtain ⟨e1, _⟩ := ok b _ n
        obtain ⟨e2, _⟩ := ok' b _ (un.frzs b ob _ n)
        rw [e] at e1
        rw [Option.some.inj e1]
        exact e2
  cases look : K.lookup a with
  | some o =>
    have e := inK a o look
    rw [ha] at e
    cases e
    exact key (fun _ => none) (fun _ => .inl rfl) (.inr ⟨_, vs.toArray, _, look, rfl, rfl, rfl, by rw [List.size_toArray, ll]; exact hl, by simpa using rel⟩) (fun b u z => nomatch z) fun b z => absurd rfl z
  | none =>
    refine key (fun b => if b = a then some (.frz { cls := .type "list", data := .seq vs.toArray } (.lst (ns.map V.int))) else none) (fun b => ?_) (.inl (.inr ⟨{ cls := .type "list", data := .seq vs.toArray }, if_pos rfl⟩)) (fun b u z => ?_) fun b z => ⟨?_, look⟩
    · rcases Classical.em (b = a) with c | c
      · exact .inr ⟨_, _, if_pos c⟩
      · exact .inl (if_neg c)
    · rcases Classical.em (b = a) with c | c
      · have y := (if_pos c).symm.trans z
        cases y
        subst c
        exact ⟨ha, by rw [List.length_map]; exact hl, vs, _, rel, ha⟩
      · have y := (if_neg c).symm.trans z
        cases y
    · exact Classical.byContradiction fun c => z (if_neg c)
theorem walkG {l : PySem.W.OpenLaw} {n k : Nat} {q : Program} {loose : List Str} {XP : (Str → Option Value) → Heap → Prop} {YP : World → Heap → Prop} {d : DefRec} {x : Str}
    (hn : l.most = some n) (hn2 : n ≤ sizeLine) (hdf : d.params.defaults = []) (hr : Room k callerA)
    (F : ∀ (w : World) (mg : Str → Option Value) (fa : Addr) (h : Heap), YP w h → h.Ns mainGlobals mg → mg d.name = some (.ref fa) → ∃ (K : PySem.W.Frag) (fd : FuncData) (sp : Sp), K.In h ∧ (∀ (s : Shared) (u : Value), BindsTo s fd ⟨[u], []⟩ [(x, u)]) ∧
      (∀ (H : Hp) (a : Addr) (ns : List Int), ns.length ≤ n → Only H → SqL K H a (ns.map V.int) → sp [.ref a] H (fun v _ => v = .bl true) fun _ _ _ => False) ∧ ∀ base : Heap, K.In base → base.Ns mainGlobals mg → FnG l.prog w K mg base k fa fd [x] sp) :
    PySem.W.WalkO q loose XP YP l.row.toRowW d [] (fun f vs => PySem.call f vs) := by
  refine Att.attach_call hn hdf fun w s0 s1 mg mb fa o pm cd doc a vs ns G Y ho hd hcd hmg hobj hints hlen hg => ?_
  obtain ⟨K, fd, sp, inK, hb, hsp, hF⟩ := F w mg fa _ Y G.T.g hmg
  exact callG inK G.T.g G.T.b G.T.builtins G.T.nolimit hg hobj hints (Nat.le_trans hlen hn2) hr hF hb fun H only sq => hsp H a ns hlen only sq
end Wm
end
section
set_option Elab.async false
set_option linter.all false
set_option maxRecDepth 100000
set_option maxHeartbeats 4000000
/-! The law, plain: webs as data, webs behind one another, rows whose deeds are halved. -/
namespace Wm
open PySem PySem.Spec PyProof.Rows L2 WmM
set_option autoImplicit false
def entDa (e : Fc × List Fc) : PyData := .tuple [faceD e.1, .list (e.2.map faceD)]
def entsDa (es : List (Fc × List Fc)) : PyData := .list (es.map entDa)
theorem dp_ents {K : PySem.W.Frag} {H : Hp} {l : Addr} {es : List (Fc × List Fc)} (h : EntsAt H l es) : Dp K H (.ref l) (entsDa es) := by
  obtain ⟨ts, h1, h2⟩ := h
  refine .lst (SqL.of h1) (dp_refs (fun t e ⟨b, m, e1, e2, as, e3, e4⟩ => .tup (SqT.of e1) (.cons (dp_face e2) (.cons (.lst (SqL.of e3) (dp_refs (fun a f r => dp_face r) e4)) .nil))) h2)
theorem lay_map {α : Type} {g : α → PyData} : ∀ (xs : List α), (∀ x ∈ xs, (g x).canLay0 = true ∧ (g x).depth ≤ 8) → PyData.canLayAll0 (xs.map g) = true ∧ PyData.depthAll (xs.map g) ≤ 8
  | [], _ => ⟨rfl, Nat.zero_le _⟩
  | x :: xs, h => by
    obtain ⟨a, b⟩ := lay_map xs fun y hy => h y (.tail _ hy)
    obtain ⟨c, d⟩ := h x (.head _)
    refine ⟨?_, Nat.max_le.mpr ⟨d, b⟩⟩
    show ((g x).canLay0 && PyData.canLayAll0 (xs.map g)) = true
    rw [c, a]
    rfl
theorem lay_ents {F : List Fc} (OF : FsOk F) {es : List (Fc × List Fc)} (h1 : ∀ e ∈ es, e.1 ∈ F) (h2 : ∀ e ∈ es, ∀ f ∈ e.2, f ∈ F) : (entsDa es).canLay0 = true ∧ SeqAt.shaped (entsDa es) = true := by
  have face : ∀ f ∈ F, (faceD f).canLay0 = true ∧ (faceD f).depth ≤ 1 := fun f hf => ⟨OF.lay f hf, face_depth (OF.shap f hf)⟩
  have ent : ∀ e ∈ es, (entDa e).canLay0 = true ∧ (entDa e).depth ≤ 8 := fun e he => by
    have a := face e.1 (h1 e he)
    have b : PyData.canLayAll0 (e.2.map faceD) = true ∧ PyData.depthAll (e.2.map faceD) ≤ 1 := by
      have : ∀ fs : List Fc, (∀ f ∈ fs, f ∈ F) → PyData.canLayAll0 (fs.map faceD) = true ∧ PyData.depthAll (fs.map faceD) ≤ 1 := fun fs => by
        induction fs with
        | nil => exact fun _ => ⟨rfl, Nat.zero_le _⟩
        | cons f fs ih =>
          intro h
          obtain ⟨a, b⟩ := ih fun y hy => h y (.tail _ hy)
          obtain ⟨c, d⟩ := face f (h f (.head _))
          refine ⟨?_, Nat.max_le.mpr ⟨d, b⟩⟩
          show ((faceD f).canLay0 && PyData.canLayAll0 (fs.map faceD)) = true
          rw [c, a]
          rfl
      exact this e.2 (h2 e he)
    refine ⟨?_, ?_⟩
    · show ((faceD e.1).canLay0 && (PyData.canLayAll0 (e.2.map faceD) && true)) = true
      rw [a.1, b.1]
      rfl
    · show max (faceD e.1).depth (max (PyData.depthAll (e.2.map faceD) + 1) 0) + 1 ≤ 8
      have := a.2
      have := b.2
      omega
  obtain ⟨c, d⟩ := lay_map es ent
  have c' : (entsDa es).canLay0 = true := c
  have d' : (entsDa es).depth ≤ 64 := by
    show PyData.depthAll (es.map entDa) + 1 ≤ 64
    omega
  refine ⟨c', ?_⟩
  unfold SeqAt.shaped
  rw [c', decide_eq_true d']
  rfl
/-! webs behind one another -/
theorem web_ok {S : Shp} {row : List Deed} {wet : Int} {es : List (Fc × List Fc)} (SS : SmallS S) (h1 : es.map (·.1) = facesOf S) (h2 : ∀ e ∈ es, WebRel S row wet e) : WebOk S es := by
  refine ⟨h1, fun e he f hf => ?_, fun e he => ?_⟩
  · obtain ⟨ks, a, b, c, d⟩ := h2 e he
    rw [c] at hf
    exact b f ((List.mergeSort_perm ks leF).mem_iff.mp hf)
  · obtain ⟨ks, a, b, c, d⟩ := h2 e he
    rw [c, (List.mergeSort_perm ks leF).length_eq]
    exact Nat.le_trans (nodup_le ks (facesOf S) a b) SS.len
theorem rw_app {S : Shp} (a b : List Deed) : rwOf S (a ++ b) = rwOf S a ++ rwOf S b := List.map_append
theorem paired_ext {α β : Type} {R : α → β → Prop} : ∀ {xs : List α} {ys : List β}, Paired R xs ys → ∀ (zs : List β), ys.length = zs.length → (∀ (i : Nat) x y z, xs[i]? = some x → ys[i]? = some y → zs[i]? = some z → R x y → y = z) → ys = zs
  | _, _, .nil, [], _, _ => rfl
  | _, _, .nil, _ :: _, h, _ => nomatch h
  | _, _, .cons _ _, [], h, _ => nomatch h
  | _, _, .cons r t, z :: zs, h, k => by
    rw [k 0 _ _ z rfl rfl rfl r, paired_ext t zs (by simpa using h) fun i x y z e1 e2 e3 => k (i + 1) x y z (by simpa using e1) (by simpa using e2) (by simpa using e3)]
theorem webs_behind {S : Shp} {one other : List Deed} {wet : Int} {es1 es2 es es12 : List (Fc × List Fc)} (nn1 : ∀ d ∈ one, 0 ≤ d.b) (nn2 : ∀ d ∈ other, 0 ≤ d.b) (f1 : es1.map (·.1) = facesOf S) (f2 : es2.map (·.1) = facesOf S) (f12 : es12.map (·.1) = facesOf S)
    (w1 : ∀ e ∈ es1, WebRel S one wet e) (w2 : ∀ e ∈ es2, WebRel S other (max 0 (wet - totD one)) e) (w12 : ∀ e ∈ es12, WebRel S (one ++ other) wet e) (B : Paired (BehRel es2) es1 es) : es = es12 := by
  have l1 := Paired.length B
  have e1 := congrArg List.length f1
  have e12 := congrArg List.length f12
  rw [List.length_map] at e1 e12
  refine paired_ext B es12 (by omega) fun i x y z hx hy hz ⟨r1, M, r2, r3, r4⟩ => ?_
  have fx : (facesOf S)[i]? = some x.1 := by rw [← f1, List.getElem?_map, hx]; rfl
  have fz : (facesOf S)[i]? = some z.1 := by rw [← f12, List.getElem?_map, hz]; rfl
  have exz : x.1 = z.1 := Option.some.inj (fx.symm.trans fz)
  obtain ⟨k1, a1, a2, a3, a4⟩ := w1 x (List.mem_of_getElem? hx)
  obtain ⟨k12, c1, c2, c3, c4⟩ := w12 z (List.mem_of_getElem? hz)
  have same : ∀ g, g ∈ M ↔ g ∈ k12 := fun g => by
    rw [r4 g, c4 g, rw_app, rch_behind (nn_of nn2) (nn_of nn1), tot_of, ← exz]
    constructor
    · rintro ⟨m, m1, e2, m2, rfl, m3⟩
      rw [a3] at m1
      have m1 := (a4 _).mp ((List.mergeSort_perm k1 leF).mem_iff.mp m1)
      obtain ⟨k2, b1, b2, b3, b4⟩ := w2 e2 m2
      rw [b3] at m3
      exact ⟨_, m1, (b4 _).mp ((List.mergeSort_perm k2 leF).mem_iff.mp m3)⟩
    · rintro ⟨m, h1, h2⟩
      have mk := (a4 m).mpr h1
      have mF := a2 m mk
      rw [← f2] at mF
      obtain ⟨e2, m2, rfl⟩ := List.mem_map.mp mF
      obtain ⟨k2, b1, b2, b3, b4⟩ := w2 e2 m2
      exact ⟨_, by rw [a3]; exact (List.mergeSort_perm k1 leF).mem_iff.mpr mk, e2, m2, rfl, by rw [b3]; exact (List.mergeSort_perm k2 leF).mem_iff.mpr ((b4 g).mpr h2)⟩
  have hs : ∀ f ∈ M, Shap f := fun f hf => shap_in (c2 f ((same f).mp hf))
  refine Prod.ext (r1.trans exz) ?_
  rw [r2, c3]
  exact sortF_same r3 c1 same hs
/-! halves -/
def Deed.with (d : Deed) (b : Int) : Deed := match d with
  | .opn _ => .opn b
  | .roll n ps _ => .roll n ps b
/-- each deed in two -/
inductive Halved : List Deed → List Deed → Prop
  | nil : Halved [] []
  | snoc {d : Deed} {h : Int} {r s : List Deed} : Halved r s → 0 ≤ h → h ≤ d.b → Halved (r ++ [d]) (s ++ [d.with h, d.with (d.b - h)])
theorem split_app {F : Type} {r s r' s' : Rw F} (h : Split r s) (h' : Split r' s') : Split (r ++ r') (s ++ s') := by
  induction h with
  | nil => exact h'
  | cons h1 h2 _ ih => exact .cons h1 h2 ih
theorem adj_with {S : Shp} (d : Deed) (b : Int) : adjD S (d.with b) = adjD S d := by cases d <;> rfl
theorem b_with (d : Deed) (b : Int) : (d.with b).b = b := by cases d <;> rfl
theorem Halved.split {S : Shp} {r s : List Deed} (h : Halved r s) : Split (rwOf S r) (rwOf S s) := by
  induction h with
  | nil => exact .nil
  | @snoc d h r s _ h1 h2 ih =>
    rw [rw_app, rw_app]
    refine split_app ih ?_
    show Split [(d.b, adjD S d)] [((d.with h).b, adjD S (d.with h)), ((d.with (d.b - h)).b, adjD S (d.with (d.b - h)))]
    rw [adj_with, adj_with, b_with, b_with]
    exact .cons h1 h2 .nil
theorem halved_ok {S : Shp} {r s : List Deed} (h : Halved r s) (O : ∀ d ∈ r, DeedOk S d) : (∀ d ∈ s, DeedOk S d) ∧ s.length = 2 * r.length := by
  induction h with
  | nil => exact ⟨fun _ h => (nomatch h), rfl⟩
  | @snoc d h r s _ h1 h2 ih =>
    obtain ⟨i1, i2⟩ := ih fun d hd => O d (List.mem_append_left _ hd)
    have od := O d (List.mem_append_right _ (.head _))
    have wd : ∀ b, 0 ≤ b → DeedOk S (d.with b) := fun b hb => by
      cases d with
      | opn c => exact hb
      | roll n ps c => exact ⟨hb, od.2⟩
    refine ⟨fun e he => ?_, by rw [List.length_append, List.length_append, i2]; show 2 * r.length + 2 = 2 * (r.length + 1); omega⟩
    rcases List.mem_append.mp he with he | he
    · exact i1 e he
    rcases List.mem_cons.mp he with rfl | he
    · exact wd h h1
    · rw [List.mem_singleton.mp he]
      exact wd _ (by omega)
theorem same_halved {S : Shp} {a r s c : List Deed} (ha : ∀ d ∈ a, 0 ≤ d.b) (hc : ∀ d ∈ c, 0 ≤ d.b) (h : Halved r s) : SameRows S (a ++ r ++ c) (a ++ s ++ c) := fun f R R' h1 h2 => by
  rw [← tot_of (S := S)] at h1 h2
  simp only [rw_app] at h1 h2
  exact split_same (nn_of ha) (nn_of hc) h.split (K1_bd f) h1 h2
end Wm
end
section
set_option Elab.async false
set_option linter.all false
set_option maxRecDepth 100000
set_option maxHeartbeats 4000000
/-! The law itself: walked. -/
namespace Wm
open PySem PySem.Spec PyProof.Rows L2 WmM
set_option autoImplicit false
theorem ShopL.npS {K : PySem.W.Frag} {H H' : Hp} {p sh ll : Addr} {n : Nat} {S : Shp} (k : NP p H H') (hs : SrcAt H p n) (ne : ll ≠ p) (h : ShopL K H sh ll S) : ShopL K H' sh ll S := by
  obtain ⟨dx, ld, as, h1, h2, h3, h4⟩ := h
  have ins : ∀ {b C dx : Addr} {fs : List (Str × V)}, H b = some (.ins C dx fs) → b ≠ p := fun e z => by
    obtain ⟨_, _, _, q, _⟩ := hs
    rw [z, q] at e
    cases e
  exact ⟨dx, ld, as, k _ _ (ins h1) h1, k _ _ (hs.refs h2) h2, paired_imp (fun a d ⟨z, e⟩ => ⟨z, k _ _ (ins e) e⟩) h3, k _ _ ne h4⟩
theorem RowSm.ok {S : Shp} {row : List Deed} (h : RowSm S row) : RowOk S row := ⟨fun d hd => (h.2 d hd).1, by have := h.1; omega⟩
theorem RowSm.nn {S : Shp} {row : List Deed} (h : RowSm S row) : ∀ d ∈ row, 0 ≤ d.b := fun d hd => ((h.2 d hd).1).nn
theorem sqSame {K : PySem.W.Frag} {H H' : Hp} {a : Addr} {xs : List V} (s : Same H H') (h : SqL K H a xs) : SqL K H' a xs := by
  rcases h with (h | ⟨o, h⟩) | h
  · exact .inl (.inl (s _ _ h))
  · exact .inl (.inr ⟨o, s _ _ h⟩)
  · exact .inr h
theorem cut13 (ns : List Int) : ∃ cs : List Int, cutV (ns.map V.int) (some 1) (some 3) = cs.map V.int ∧ cs.length ≤ 2 := by
  unfold cutV
  rw [← List.map_drop, ← List.map_take]
  refine ⟨_, rfl, ?_⟩
  have e1 : ∀ n d, HT.sIx n d (some (1 : Int)) = min 1 n := fun n d => HT.sIx_nat n d 1
  have e3 : ∀ n d, HT.sIx n d (some (3 : Int)) = min 3 n := fun n d => HT.sIx_nat n d 3
  rw [e1, e3, List.length_take]
  omega
theorem deed_last {H : Hp} {a : Addr} {d : Deed} (h : DeedAt H a d) : ∃ xs, H a = some (.tup xs) ∧ atI xs (-1) = some (.int d.b) := by
  cases d with
  | opn b => exact ⟨_, h, rfl⟩
  | roll n ps b =>
    obtain ⟨l, h1, _⟩ := h
    exact ⟨_, h1, rfl⟩
theorem row_cat {H : Hp} {lc : Addr} {r1 r2 : List Deed} {as1 as2 : List Addr} (p1 : Paired (DeedAt H) as1 r1) (p2 : Paired (DeedAt H) as2 r2) (n : H lc = none) : RowAt (upd H lc (.lst (as1.map V.ref ++ as2.map V.ref))) lc (r1 ++ r2) :=
  ⟨as1 ++ as2, by rw [upd_same, List.map_append], paired_app (paired_imp (fun a d e => e.kn (Kn.new n)) p1) (paired_imp (fun a d e => e.kn (Kn.new n)) p2)⟩
theorem ok_cat {S : Shp} {r1 r2 : List Deed} (h1 : RowOk S r1) (h2 : RowOk S r2) (l : r1.length + r2.length ≤ 40) : RowOk S (r1 ++ r2) := ⟨fun d hd => by
  rcases List.mem_append.mp hd with h | h
  · exact h1.ok d h
  · exact h2.ok d h, by rw [List.length_append]; exact l⟩
theorem deed_cut {H : Hp} {a : Addr} {d : Deed} (h : DeedAt H a d) : ∃ xs, H a = some (.tup xs) ∧ atI xs (-1) = some (.int d.b) ∧ cutV xs none (some (-1)) ≠ [] ∧ (cutV xs none (some (-1))).length ≤ 3 ∧ ¬ (HT.sIx xs.length 0 none = 0 ∧ HT.sIx xs.length xs.length (some (-1)) = xs.length) ∧
    ∀ (H' : Hp) (q : Addr) (b : Int), Kn H H' → H' q = some (.tup (cutV xs none (some (-1)) ++ [.int b])) → DeedAt H' q (d.with b) := by
  cases d with
  | opn b => exact ⟨_, h, rfl, (fun z => nomatch z), by show 1 ≤ 3; decide, (fun z => absurd z.2 (by show ¬ (1 = 2); decide)), fun H' q c k e => e⟩
  | roll n ps b =>
    obtain ⟨l, h1, h2⟩ := h
    exact ⟨_, h1, rfl, (fun z => nomatch z), by show 3 ≤ 3; decide, (fun z => absurd z.2 (by show ¬ (3 = 4); decide)), fun H' q c k e => ⟨l, e, h2.kn k⟩⟩
def sp_law (K : PySem.W.Frag) : Sp := fun vs H Q _ => ∃ (a : Addr) (ns : List Int), vs = [.ref a] ∧ SqL K H a (ns.map V.int) ∧ ∀ H', Q (.bl true) H'
section
variable {P : Program} {w : World} {K : PySem.W.Frag} {mg : Str → Option Value} {base : Heap}
theorem ok_law (T : Tx K mg) {fd : FuncData} (F : FunD K "law" "law" (defArgs s_law) (defBody s_law) (defScope s_law) [] [] (He.ga K "law") fd) : FnG P w K mg base 12 (He.ga K "law") fd ["_law_script"] (sp_law K) := by
  refine fnG_of F sc_law (fun vs H Q E h => ?_) (fun cdv A outer s H vs Q E hg hr h => ?_)
  · obtain ⟨_, _, rfl, _⟩ := h
    rfl
  · obtain ⟨a, ns, rfl, ha, k⟩ := h
    suffices hh : ∃ t, PSs (cxOf CX0 P w K mg base ["_law_script", "_law_cell", "_law_source", "_law_spec_here", "_law_one_here", "_law_other", "_law_kept", "_law_shop_here", "_law_beats", "_law_deed", "_law_wets", "_law_wet", "_law_due", "_law_split", "_law_half"] "law" (defScope s_law) (He.ga K "law") cdv A outer s H E).nox (defBody s_law) t ∧ t { nx := fun _ H' => Q .non H', rt := Q } (start ["_law_script", "_law_cell", "_law_source", "_law_spec_here", "_law_one_here", "_law_other", "_law_kept", "_law_shop_here", "_law_beats", "_law_deed", "_law_wets", "_law_wet", "_law_due", "_law_split", "_law_half"] [.ref a]) H from let ⟨t, h1, h2⟩ := hh; ⟨t, h1.nox, h2⟩
    refine ⟨_, (pss_cons (ps_for PassesOwn.never rfl (pi_list (pe_op op_cat (pe_lst (pa_cons (pc (ok_law_cell_at T) hr rfl T.g_law_cell_at (pa_cons (pv 0) (pa_cons pe_int pa_nil))) pa_nil)) (pe_slice sl_list (pv 0) (po_some pe_int) (po_some pe_int)))) (pg_name (i := 1) sc_law.nd rfl (.inl rfl)) (pss_cons (ps_set (i := 2) sc_law.nd rfl (.inl rfl) (pc (ok_law_source_of T) hr rfl T.g_law_source_of (pa_cons (pv 1) pa_nil))) (pss_cons (ps_set (i := 3) sc_law.nd rfl (.inl rfl) (pc (ok_law_spec T) hr rfl T.g_law_spec (pa_cons (pv 2) (pa_cons pe_int pa_nil)))) (pss_cons (ps_set (i := 4) sc_law.nd rfl (.inl rfl) (pc (ok_law_row T) hr rfl T.g_law_row (pa_cons (pv 2) (pa_cons (pv 3) (pa_cons pe_int pa_nil))))) (pss_cons (ps_set (i := 5) sc_law.nd rfl (.inl rfl) (pc (ok_law_row T) hr rfl T.g_law_row (pa_cons (pv 2) (pa_cons (pv 3) (pa_cons pe_int pa_nil))))) (pss_cons (ps_set (i := 6) sc_law.nd rfl (.inl rfl) (pe_callB (cr_repr hg hr.units) (by rfl) T.n_repr (by decide +kernel) (pa_cons (pe_tup (pa_cons (pv 4) (pa_cons (pv 5) pa_nil))) pa_nil))) (pss_cons (ps_set (i := 7) sc_law.nd rfl (.inl rfl) (pc (ok_law_shop T) hr rfl T.g_law_shop (pa_cons (pv 3) pa_nil))) (pss_cons (ps_set (i := 8) sc_law.nd rfl (.inl rfl) (pe_callB (cr_sum rfl) (by rfl) T.n_sum (by decide +kernel) (pa_cons (pe_lc (own := [("_law_deed", 9)]) (g := (gName 9)) rfl sc_law.nd (pi_list (pv 4)) (blkOk_by (own := [("_law_deed", 9)]) (N := ["_law_script", "_law_cell", "_law_source", "_law_spec_here", "_law_one_here", "_law_other", "_law_kept", "_law_shop_here", "_law_beats", "_law_deed", "_law_wets", "_law_wet", "_law_due", "_law_split", "_law_half"]) (sc := (defScope s_law)) (by decide +kernel)) (fun _ _ _ _ _ => (pg_name (i := 9) sc_law.nd rfl (.inl rfl))) (fun _ _ _ _ _ => pts_nil) (fun _ _ _ _ _ => (pe_ix (ix_tupK K) (pv 9) (pe_un un_neg pe_int) (fun _ _ => rfl)))) pa_nil))) (pss_cons (ps_set (i := 10) sc_law.nd rfl (.inl rfl) (pe_lst (pa_cons pe_int (pa_cons (pv 8) (pa_cons (pe_op op_add (pv 8) pe_int) (pa_cons (pe_callB (cr_max2I rfl hr.units) (by rfl) T.n_max (by decide +kernel) (pa_cons pe_int (pa_cons (pe_op op_sub (pv 8) pe_int) pa_nil))) (pa_cons (pe_op op_add (pe_op op_add (pv 8) pe_int) (pc (ok_law_next T) hr rfl T.g_law_next (pa_cons (pv 2) (pa_cons pe_int pa_nil)))) pa_nil))))))) (pss_cons (ps_for PassesOwn.never rfl (pi_list (pe_op op_cat (pv 10) (pe_lst (pa_cons (pc (ok_law_next T) hr rfl T.g_law_next (pa_cons (pv 2) (pa_cons pe_int pa_nil))) (pa_cons (pe_op op_pow pe_int pe_int) pa_nil))))) (pg_name (i := 11) sc_law.nd rfl (.inl rfl)) (pss_cons (ps_set (i := 12) sc_law.nd rfl (.inl rfl) (pc (ok_law_behind T) hr rfl T.g_law_behind (pa_cons (pc (ok_web T) hr rfl T.g_web (pa_cons (pv 7) (pa_cons (pv 4) (pa_cons (pv 11) pa_nil)))) (pa_cons (pc (ok_web T) hr rfl T.g_web (pa_cons (pv 7) (pa_cons (pv 5) (pa_cons (pe_callB (cr_max2I rfl hr.units) (by rfl) T.n_max (by decide +kernel) (pa_cons pe_int (pa_cons (pe_op op_sub (pv 11) (pv 8)) pa_nil))) pa_nil)))) pa_nil)))) (pss_one (ps_if (pt_cmpR (op_neD hr.units) (pc (ok_web T) hr rfl T.g_web (pa_cons (pv 7) (pa_cons (pe_op op_cat (pv 4) (pv 5)) (pa_cons (pv 11) pa_nil)))) (pv 12) (nomark _)) (pss_one (ps_ret pe_bl)) pss_nil)))) (pss_cons (ps_set (i := 13) sc_law.nd rfl (.inl rfl) (pe_lst pa_nil)) (pss_cons (ps_for PassesOwn.never rfl (pi_list (pv 4)) (pg_name (i := 9) sc_law.nd rfl (.inl rfl)) (pss_cons (ps_set (i := 14) sc_law.nd rfl (.inl rfl) (pc (ok_law_next T) hr rfl T.g_law_next (pa_cons (pv 2) (pa_cons (pe_op op_add (pe_ix ix_tup (pv 9) (pe_un un_neg pe_int) (fun _ _ => rfl)) pe_int) pa_nil)))) (pss_one (ps_set (i := 13) sc_law.nd rfl (.inl rfl) (pe_op op_cat (pv 13) (pe_lst (pa_cons (pe_op op_catT (pe_slice sl_tup (pv 9) po_none (po_some (pe_un un_neg pe_int))) (pe_tup (pa_cons (pv 14) pa_nil))) (pa_cons (pe_op op_catT (pe_slice sl_tup (pv 9) po_none (po_some (pe_un un_neg pe_int))) (pe_tup (pa_cons (pe_op op_sub (pe_ix ix_tup (pv 9) (pe_un un_neg pe_int) (fun _ _ => rfl)) (pv 14)) pa_nil))) pa_nil)))))))) (pss_cons (ps_if (PW.pt (pw_or (pt_cmpR op_notN (pc (ok_parted T) hr rfl T.g_parted (pa_cons (pv 7) (pa_cons (pv 4) (pa_cons (pv 13) pa_nil)))) pe_non (nomark _)) (pw_or1 (pt_cmpR op_notN (pc (ok_parted T) hr rfl T.g_parted (pa_cons (pv 7) (pa_cons (pe_op op_cat (pv 4) (pv 5)) (pa_cons (pe_op op_cat (pv 13) (pv 5)) pa_nil)))) pe_non (nomark _))))) (pss_one (ps_ret pe_bl)) pss_nil) (pss_one (ps_if (PW.pt (pw_or (pt_cmpR op_notN (pc (ok_parted T) hr rfl T.g_parted (pa_cons (pv 7) (pa_cons (pe_op op_cat (pv 5) (pv 4)) (pa_cons (pe_op op_cat (pv 5) (pv 13)) pa_nil)))) pe_non (nomark _)) (pw_or1 (pt_cmpR op_ne (pe_callB (cr_repr hg hr.units) (by rfl) T.n_repr (by decide +kernel) (pa_cons (pe_tup (pa_cons (pv 4) (pa_cons (pv 5) pa_nil))) pa_nil)) (pv 6) (nomark _))))) (pss_one (ps_ret pe_bl)) pss_nil))))))))))))))) (pss_one (ps_ret pe_bl))), ?_⟩
    refine ⟨_, rfl, a, ns, 0, rfl, ha, by omega, fun c0 => ⟨by show 1 ≤ sizeLine; decide, fun u hu => ?_⟩⟩
    have s1 : Same H (upd H u (.lst [.int c0])) := Same.new hu
    have hu1 : upd H u (.lst [.int c0]) u = some (.lst [.int c0]) := upd_same
    have ha1 := sqSame s1 ha
    generalize upd H u (.lst [.int c0]) = H1 at s1 hu1 ha1 ⊢
    obtain ⟨cs, ec, lc⟩ := cut13 ns
    refine ⟨_, rfl, 1, rfl, 3, rfl, a, _, rfl, ha1, fun z hz => ?_⟩
    rw [ec]
    have hu2 : upd H1 z (.lst (cs.map V.int)) u = some (.lst [.int c0]) := kept hu1 hz
    refine ⟨u, z, _, _, rfl, rfl, hu2, upd_same, by rw [List.length_map]; show 1 + cs.length ≤ sizeLine; rw [sizeLine_eq]; omega, fun y hy => ?_⟩
    generalize upd H1 z (.lst (cs.map V.int)) = H2 at hy ⊢
    have hy3 : upd H2 y (.lst ([V.int c0] ++ cs.map V.int)) y = some (.lst ((c0 :: cs).map V.int)) := upd_same
    generalize upd H2 y (.lst ([V.int c0] ++ cs.map V.int)) = H3 at hy3 ⊢
    refine ⟨y, rfl, ⟨_, SqL.of hy3⟩, for_it walk_listF (fun i σ H' => (∃ x1 x2 x3 x4 x5 x6 x7 x8 x9 x10 x11 x12 x13 x14, σ = [some (.ref a), x1, x2, x3, x4, x5, x6, x7, x8, x9, x10, x11, x12, x13, x14]) ∧ Same H3 H')
      ⟨⟨_, _, _, _, _, _, _, _, _, _, _, _, _, _, rfl⟩, Same.refl _⟩ (fun i σ H' _ q => SqL.of (q.2 _ _ hy3)) ?_ ?_⟩
    · rintro i x σ H4 H5 hi ⟨⟨x1, x2, x3, x4, x5, x6, x7, x8, x9, x10, x11, x12, x13, x14, rfl⟩, s4⟩ ⟨rfl, c, ex, rfl⟩
      refine ⟨_, rfl, c, rfl, fun H6 p s6 hp hs6 => ?_⟩
      refine ⟨_, rfl, p, 0, rfl, hs6, by omega, fun H7 t S np7 hs7 hS7 SS => ?_⟩
      refine ⟨_, rfl, _, rfl, p, t, 0 + 40, S, rfl, hs7, by omega, hS7, SS.ok, fun H8 l1 one np8 hs8 hr1 sm1 l1n => ?_⟩
      have hS8 := hS7.np np8 hs7
      refine ⟨_, rfl, _, rfl, p, t, 0 + 40 + 60, S, rfl, hs8, by omega, hS8, SS.ok, fun H9 l2 other np9 hs9 hr2 sm2 l2n => ?_⟩
      have hS9 := hS8.np np9 hs8
      have hr1 := hr1.npS np9 hs8
      have np69 : NP p H6 H9 := (np7.trans np8).trans np9
      refine ⟨_, rfl, _, rfl, by show 2 ≤ sizeLine; decide, fun tp htp => ?_⟩
      have s10 : Same H9 (upd H9 tp (.tup [.ref l1, .ref l2])) := Same.new htp
      have htp10 : upd H9 tp (.tup [.ref l1, .ref l2]) tp = some (.tup [.ref l1, .ref l2]) := upd_same
      generalize upd H9 tp (.tup [.ref l1, .ref l2]) = H10 at s10 htp10 ⊢
      have g2 := gd_two SS.ok sm1 sm2
      have kn10 := Kn.same s10
      refine ⟨tp, _, rfl, .tup (SqT.of htp10) (.cons (dp_row (hr1.kn kn10)) (.cons (dp_row (hr2.kn kn10)) .nil)), g2.sh, g2.nd, Nat.le_trans g2.dp (by decide), g2.size, ?_⟩
      refine ⟨_, rfl, t, p, S, rfl, hS9.np (NP.of s10) hs9, SS.ok, fun H11 sh ll s11 lln sl => ?_⟩
      have s911 := s10.trans s11
      have hs11 := hs9.same s911
      have ne_ll : ll ≠ p := fun e => (hs9.same s10).ne (by rw [← e]; exact lln)
      have hr1 := hr1.kn (Kn.same s911)
      have hr2 := hr2.kn (Kn.same s911)
      have np611 : NP p H6 H11 := np69.same s911
      obtain ⟨as1, hl1, pa1⟩ := id hr1
      have la1 := Paired.length pa1
      have one3 := sm1.1
      refine ⟨_, rfl, l1, rfl, ⟨_, SqL.of hl1⟩, fun D hD => ?_⟩
      refine lc_it walk_listF (fun j H' => Same H11 H' ∧ H' D = some (.lst (((one.map Deed.b).take j).map V.int))) ⟨Same.new hD, upd_same⟩ (fun j H' _ q => SqL.of (q.1 _ _ hl1)) ?_ ?_
      · rintro j y H12 H13 hj ⟨s12, hD12⟩ ⟨rfl, da, eda, rfl⟩
        obtain ⟨d, ed, hd⟩ := paired_get pa1 eda
        obtain ⟨xs, hx1, hx2⟩ := deed_last (hd.kn (Kn.same s12))
        refine ⟨rfl, _, rfl, 1, rfl, da, xs, -1, _, rfl, rfl, SqT.of hx1, hx2, _, hD12, by rw [List.length_map, List.length_take]; exact small1000 (by omega), s12.over hD, ?_⟩
        rw [upd_same, List.take_add_one, List.getElem?_map, ed, List.map_append]
        rfl
      rintro H12 ⟨s12, hD12⟩
      rw [show as1.length = (one.map Deed.b).length by rw [List.length_map, la1], List.take_length] at hD12
      refine ⟨D, one.map Deed.b, rfl, SqL.of hD12, ?_⟩
      have ebt : (one.map Deed.b).sum = totD one := rfl
      rw [ebt]
      have bt0 : 0 ≤ totD one := by
        have := tot_nn (nn_of (S := S) sm1.nn)
        rwa [tot_of] at this
      generalize hbt : totD one = bt at bt0
      have hs12 := hs11.same s12
      refine ⟨_, rfl, _, rfl, _, _, rfl, rfl, _, rfl, _, _, rfl, rfl, _, _, rfl, _, rfl, _, _, rfl, rfl, _, rfl, p, 0 + 40 + 60 + 60, 5, rfl, hs12, by omega, by omega, by omega, fun H13 r5 np13 hs13 r50 r51 => ?_⟩
      refine ⟨_, _, rfl, rfl, by show 5 ≤ sizeLine; decide, fun q hq => ?_⟩
      have s14 : Same H13 (upd H13 q (.lst [.int 0, .int bt, .int (bt + 1), .int (max 0 (bt - 1)), .int (bt + 2 + r5)])) := Same.new hq
      have hq14 : upd H13 q (.lst [.int 0, .int bt, .int (bt + 1), .int (max 0 (bt - 1)), .int (bt + 2 + r5)]) q = some (.lst [.int 0, .int bt, .int (bt + 1), .int (max 0 (bt - 1)), .int (bt + 2 + r5)]) := upd_same
      have neq : q ≠ p := fun e => hs13.ne (by rw [← e]; exact hq)
      generalize upd H13 q (.lst [.int 0, .int bt, .int (bt + 1), .int (max 0 (bt - 1)), .int (bt + 2 + r5)]) = H14 at s14 hq14 ⊢
      have hs14 := hs13.same s14
      refine ⟨_, rfl, _, rfl, p, _, 9, rfl, hs14, by omega, by omega, by omega, fun H15 r9 np15 hs15 r90 r91 => ?_⟩
      refine ⟨_, _, rfl, rfl, ⟨by decide, by decide⟩, by show 2 ≤ sizeLine; decide, fun q2 hq2 => ?_⟩
      have s16 : Same H15 (upd H15 q2 (.lst [.int r9, .int (10 ^ (25 : Int).toNat)])) := Same.new hq2
      have hq16 : upd H15 q2 (.lst [.int r9, .int (10 ^ (25 : Int).toNat)]) q2 = some (.lst [.int r9, .int (10 ^ (25 : Int).toNat)]) := upd_same
      generalize upd H15 q2 (.lst [.int r9, .int (10 ^ (25 : Int).toNat)]) = H16 at s16 hq16 ⊢
      refine ⟨q, q2, _, _, rfl, rfl, s16 _ _ (np15 _ _ neq hq14), hq16, by show 7 ≤ sizeLine; decide, fun wl hwl => ?_⟩
      have s17 : Same H16 (upd H16 wl (.lst ([.int 0, .int bt, .int (bt + 1), .int (max 0 (bt - 1)), .int (bt + 2 + r5)] ++ [.int r9, .int (10 ^ (25 : Int).toNat)]))) := Same.new hwl
      have hwl17 : upd H16 wl (.lst ([.int 0, .int bt, .int (bt + 1), .int (max 0 (bt - 1)), .int (bt + 2 + r5)] ++ [.int r9, .int (10 ^ (25 : Int).toNat)])) wl = some (.lst (([0, bt, bt + 1, max 0 (bt - 1), bt + 2 + r5, r9, 10 ^ (25 : Int).toNat] : List Int).map V.int)) := upd_same
      generalize upd H16 wl (.lst ([.int 0, .int bt, .int (bt + 1), .int (max 0 (bt - 1)), .int (bt + 2 + r5)] ++ [.int r9, .int (10 ^ (25 : Int).toNat)])) = H17 at s17 hwl17 ⊢
      have wnn : ∀ v ∈ ([0, bt, bt + 1, max 0 (bt - 1), bt + 2 + r5, r9, 10 ^ (25 : Int).toNat] : List Int), 0 ≤ v := fun v hv => by
        have : (0 : Int) ≤ 10 ^ (25 : Int).toNat := by decide
        simp only [List.mem_cons, List.not_mem_nil, or_false] at hv
        rcases hv with rfl | rfl | rfl | rfl | rfl | rfl | rfl <;> omega
      generalize ([0, bt, bt + 1, max 0 (bt - 1), bt + 2 + r5, r9, 10 ^ (25 : Int).toNat] : List Int) = wets at hwl17 wnn
      have np17 : NP p H11 H17 := ((((((NP.of s12).trans np13).same s14).trans np15).same s16).same s17)
      have hs17 := (hs15.same s16).same s17
      have hr1 := hr1.npS np17 hs11
      have hr2 := hr2.npS np17 hs11
      have sl := sl.npS np17 hs11 ne_ll
      refine ⟨wl, rfl, ⟨_, SqL.of hwl17⟩, for_it walk_listF (fun j σ H' => (∃ y9 y11 y12, σ = [some (.ref a), some (.int c), some (.ref p), some (.ref t), some (.ref l1), some (.ref l2), some (.str (PyData.tuple [rowDa one, rowDa other]).shown), some (.ref sh), some (.int bt), y9, some (.ref q), y11, y12, x13, x14]) ∧ Same H17 H')
        ⟨⟨_, _, _, rfl⟩, Same.refl _⟩ (fun j σ H' _ z => SqL.of (z.2 _ _ hwl17)) ?_ ?_⟩
      · rintro j y σ H18 H19 hj ⟨⟨y9, y11, y12, rfl⟩, s18⟩ ⟨rfl, wet, ew, rfl⟩
        have w0 := wnn wet (List.mem_of_getElem? ew)
        have k18 := Kn.same s18
        have S18 : ShopAt K H19 sh S := ⟨ll, sl.kn k18⟩
        refine ⟨_, rfl, _, rfl, _, rfl, sh, l1, wet, S, one, rfl, S18, SS.ok, hr1.kn k18, sm1.ok, w0, fun H20 e1 es1 s20 _ E1 f1 rel1 => ?_⟩
        have k20 := k18.trans (Kn.same s20)
        refine ⟨_, rfl, _, rfl, _, rfl, _, rfl, _, _, rfl, rfl, _, _, rfl, sh, l2, _, S, other, rfl, S18.kn (Kn.same s20), SS.ok, hr2.kn k20, sm2.ok, by omega, fun H21 e2 es2 s21 _ E2 f2 rel2 => ?_⟩
        refine ⟨e1, e2, S, es1, es2, rfl, SS, E1.kn (Kn.same s21), E2, web_ok SS f1 rel1, web_ok SS f2 rel2, fun H22 e3 es3 s22 _ E3 B => ?_⟩
        have s1922 : Same H19 H22 := (s20.trans s21).trans s22
        have k22 := k18.trans (Kn.same s1922)
        obtain ⟨as1', hl1', pa1'⟩ := hr1.kn k22
        obtain ⟨as2', hl2', pa2'⟩ := hr2.kn k22
        have la1' := Paired.length pa1'
        have la2' := Paired.length pa2'
        have l3 := sm1.1
        have l3' := sm2.1
        refine ⟨_, rfl, _, rfl, _, rfl, l1, l2, _, _, rfl, rfl, hl1', hl2', by rw [List.length_map, List.length_map]; exact Nat.le_of_lt (small1000 (by omega)), fun lc hlc => ?_⟩
        have rc := row_cat pa1' pa2' hlc
        have s23 : Same H22 (upd H22 lc (.lst (as1'.map V.ref ++ as2'.map V.ref))) := Same.new hlc
        generalize upd H22 lc (.lst (as1'.map V.ref ++ as2'.map V.ref)) = H23 at rc s23 ⊢
        refine ⟨_, rfl, sh, lc, wet, S, one ++ other, rfl, S18.kn (Kn.same (s1922.trans s23)), SS.ok, rc, ok_cat sm1.ok sm2.ok (by omega), w0, fun H24 e4 es4 s24 _ E4 f4 rel4 => ?_⟩
        have eqE : es3 = es4 := webs_behind sm1.nn sm2.nn f1 f2 f4 rel1 (by rw [hbt]; exact rel2) rel4 B
        subst eqE
        have W4 := web_ok (row := one ++ other) SS f4 rel4
        have OF := facesOf_ok SS.ok
        obtain ⟨c1, c2⟩ := lay_ents OF (es := es3) (fun e he => by rw [← f4]; exact List.mem_map_of_mem he) W4.inn
        refine ⟨_, rfl, entsDa es3, entsDa es3, dp_ents E4, dp_ents (E3.kn (Kn.same (s23.trans s24))), c2, c2, _, rfl, ?_⟩
        rw [SeqAt.eqv_refl _ c1]
        refine ifF rfl ⟨⟨_, _, _, rfl⟩, s18.trans ((s1922.trans s23).trans s24)⟩
      · rintro σ H18 ⟨⟨y9, y11, y12, rfl⟩, s18⟩
        have k18 := Kn.same s18
        have hs18 := hs17.same s18
        have hr1 := hr1.kn k18
        have hr2 := hr2.kn k18
        have sl := sl.kn k18
        refine ⟨Nat.zero_le _, fun z0 hz0 => ?_⟩
        have s19 : Same H18 (upd H18 z0 (.lst [])) := Same.new hz0
        have hz19 : upd H18 z0 (.lst []) z0 = some (.lst []) := upd_same
        generalize upd H18 z0 (.lst []) = H19 at s19 hz19 ⊢
        have hs19 := hs18.same s19
        have k19 := Kn.same s19
        have hr1 := hr1.kn k19
        have hr2 := hr2.kn k19
        have sl := sl.kn k19
        obtain ⟨as1', hl1', pa1'⟩ := id hr1
        have la1' := Paired.length pa1'
        refine ⟨_, rfl, l1, rfl, ⟨_, SqL.of hl1'⟩, for_it walk_listF (fun j σ H' => (∃ z y9 y11 y12 y14, σ = [some (.ref a), some (.int c), some (.ref p), some (.ref t), some (.ref l1), some (.ref l2), some (.str (PyData.tuple [rowDa one, rowDa other]).shown), some (.ref sh), some (.int bt), y9, some (.ref q), y11, y12, some (.ref z), y14] ∧ ∃ (sp : List Deed), RowAt H' z sp ∧ Halved (one.take j) sp) ∧ NP p H19 H' ∧ SrcAt H' p (200 + j))
          ⟨⟨z0, _, _, _, _, rfl, [], ⟨[], hz19, .nil⟩, .nil⟩, NP.refl _ _, hs19.mono (by omega)⟩ (fun j σ H' _ z => SqL.of (z.2.1 _ _ (hs19.refs hl1') hl1')) ?_ ?_⟩
        · rintro j y σ H20 H21 hj ⟨⟨z, y9, y11, y12, y14, rfl, sp, ⟨zs, hz20, pz20⟩, hv⟩, np20, hs20⟩ ⟨rfl, da, eda, rfl⟩
          obtain ⟨d, ed, hd0⟩ := paired_get pa1' eda
          have dm := List.mem_of_getElem? ed
          have hd := hd0.npS np20 hs19
          have dn := sm1.nn d dm
          have db := (sm1.2 d dm).2
          obtain ⟨xs, x1, x2, x3, x4, x5, x6⟩ := deed_cut hd
          refine ⟨_, rfl, _, rfl, 1, rfl, da, xs, -1, _, rfl, rfl, SqT.of x1, x2, _, _, rfl, rfl, p, 200 + j, d.b + 1, rfl, hs20, by omega, by omega, by omega, fun H22 hf np22 hs22 hf0 hf1 => ?_⟩
          have nda : da ≠ p := hs20.tup x1
          have y1 := np22 _ _ nda x1
          obtain ⟨xs2, z1, _, _, _, _, x7⟩ := deed_cut (hd.npS np22 hs20)
          have exs : xs2 = xs := by
            rw [y1] at z1
            injection z1 with z1
            injection z1 with z1
            exact z1.symm
          rw [exs] at x7
          have nz : z ≠ p := hs20.refs hz20
          have hz22 := np22 _ _ nz hz20
          generalize hcut : cutV xs none (some (-1)) = cv at x3 x4 x7
          refine ⟨_, rfl, _, rfl, 1, rfl, -1, rfl, da, xs, rfl, SqT.of y1, x5, fun a1 ha1 => ?_⟩
          rw [hcut]
          have s23 : Same H22 (upd H22 a1 (.tup cv)) := Same.new ha1
          have e23 : upd H22 a1 (.tup cv) a1 = some (.tup cv) := upd_same
          generalize upd H22 a1 (.tup cv) = H23 at s23 e23 ⊢
          refine ⟨_, rfl, by show 1 ≤ sizeLine; decide, fun a2 ha2 => ?_⟩
          have s24 : Same H23 (upd H23 a2 (.tup [.int hf])) := Same.new ha2
          have e24 : upd H23 a2 (.tup [.int hf]) a2 = some (.tup [.int hf]) := upd_same
          generalize upd H23 a2 (.tup [.int hf]) = H24 at s24 e24 ⊢
          refine ⟨a1, a2, _, _, rfl, rfl, SqT.of (s24 _ _ e23), SqT.of e24, x3, by rw [sizeLine_eq]; show cv.length + 1 ≤ _; omega, (fun z => nomatch z), fun _ a3 ha3 => ?_⟩
          have s25 : Same H24 (upd H24 a3 (.tup (cv ++ [.int hf]))) := Same.new ha3
          have e25 : upd H24 a3 (.tup (cv ++ [.int hf])) a3 = some (.tup (cv ++ [.int hf])) := upd_same
          generalize upd H24 a3 (.tup (cv ++ [.int hf])) = H25 at s25 e25 ⊢
          have s2225 : Same H22 H25 := (s23.trans s24).trans s25
          refine ⟨_, rfl, 1, rfl, -1, rfl, da, xs, rfl, SqT.of (s2225 _ _ y1), x5, fun b1 hb1 => ?_⟩
          rw [hcut]
          have s26 : Same H25 (upd H25 b1 (.tup cv)) := Same.new hb1
          have e26 : upd H25 b1 (.tup cv) b1 = some (.tup cv) := upd_same
          generalize upd H25 b1 (.tup cv) = H26 at s26 e26 ⊢
          refine ⟨_, rfl, 1, rfl, da, xs, -1, _, rfl, rfl, SqT.of (s26 _ _ (s2225 _ _ y1)), x2, _, rfl, _, _, rfl, rfl, by show 1 ≤ sizeLine; decide, fun b2 hb2 => ?_⟩
          have s27 : Same H26 (upd H26 b2 (.tup [.int (d.b - hf)])) := Same.new hb2
          have e27 : upd H26 b2 (.tup [.int (d.b - hf)]) b2 = some (.tup [.int (d.b - hf)]) := upd_same
          generalize upd H26 b2 (.tup [.int (d.b - hf)]) = H27 at s27 e27 ⊢
          refine ⟨b1, b2, _, _, rfl, rfl, SqT.of (s27 _ _ e26), SqT.of e27, x3, by rw [sizeLine_eq]; show cv.length + 1 ≤ _; omega, (fun z => nomatch z), fun _ b3 hb3 => ?_⟩
          have s28 : Same H27 (upd H27 b3 (.tup (cv ++ [.int (d.b - hf)]))) := Same.new hb3
          have e28 : upd H27 b3 (.tup (cv ++ [.int (d.b - hf)])) b3 = some (.tup (cv ++ [.int (d.b - hf)])) := upd_same
          generalize upd H27 b3 (.tup (cv ++ [.int (d.b - hf)])) = H28 at s28 e28 ⊢
          have s2228 : Same H22 H28 := s2225.trans ((s26.trans s27).trans s28)
          refine ⟨by show 2 ≤ sizeLine; decide, fun pl hpl => ?_⟩
          have s29 : Same H28 (upd H28 pl (.lst [.ref a3, .ref b3])) := Same.new hpl
          have e29 : upd H28 pl (.lst [.ref a3, .ref b3]) pl = some (.lst [.ref a3, .ref b3]) := upd_same
          generalize upd H28 pl (.lst [.ref a3, .ref b3]) = H29 at s29 e29 ⊢
          have s2229 : Same H22 H29 := s2228.trans s29
          have ea := s29 _ _ (((s26.trans s27).trans s28) _ _ e25)
          have eb := s29 _ _ e28
          have lz := Paired.length pz20
          have lh := (halved_ok (S := S) hv fun d hd => (sm1.2 d (List.mem_of_mem_take hd)).1).2
          rw [List.length_take] at lh
          refine ⟨z, pl, _, _, rfl, rfl, s2229 _ _ hz22, e29, by rw [List.length_map, lz, sizeLine_eq]; show sp.length + 2 ≤ _; omega, fun zn hzn => ?_⟩
          have s30 : Same H29 (upd H29 zn (.lst (zs.map V.ref ++ [.ref a3, .ref b3]))) := Same.new hzn
          have e30 : upd H29 zn (.lst (zs.map V.ref ++ [.ref a3, .ref b3])) zn = some (.lst ((zs ++ [a3, b3]).map V.ref)) := by rw [upd_same, List.map_append]; rfl
          generalize upd H29 zn (.lst (zs.map V.ref ++ [.ref a3, .ref b3])) = H30 at s30 e30 ⊢
          have s2230 := s2229.trans s30
          have npA : NP p H21 H30 := np22.same s2230
          refine ⟨⟨zn, _, _, _, _, rfl, sp ++ [d.with hf, d.with (d.b - hf)], ⟨zs ++ [a3, b3], e30, paired_app (paired_imp (fun t e r => (r.npS np22 hs20).kn (Kn.same s2230)) pz20) (.cons ?_ (.cons ?_ .nil))⟩, ?_⟩, np20.trans npA, (hs22.same s2230).mono (by omega)⟩
          · exact x7 _ _ _ (Kn.same s2230) (s30 _ _ ea)
          · exact x7 _ _ _ (Kn.same s2230) (s30 _ _ eb)
          · rw [List.take_add_one, ed]
            exact .snoc hv hf0 (by omega)
        · rintro σ H20 ⟨⟨z, y9, y11, y12, y14, rfl, sp, hz20, hv⟩, np20, hs20⟩
          rw [la1', List.take_length] at hv
          have hr1 := hr1.npS np20 hs19
          have hr2 := hr2.npS np20 hs19
          have sl := sl.npS np20 hs19 ne_ll
          obtain ⟨okd, lsp⟩ := halved_ok (S := S) hv fun d hd => (sm1.2 d hd).1
          have l3 := sm1.1
          have l3' := sm2.1
          have oksp : RowOk S sp := ⟨okd, by omega⟩
          have nnsp : ∀ d ∈ sp, 0 ≤ d.b := fun d hd => (okd d hd).nn
          have sm0 : SameRows S one sp := by
            have := same_halved (S := S) (a := []) (c := []) (fun _ h => (nomatch h)) (fun _ h => (nomatch h)) hv
            rwa [List.append_nil, List.append_nil] at this
          have smR : SameRows S (one ++ other) (sp ++ other) := same_halved (S := S) (a := []) (fun _ h => (nomatch h)) sm2.nn hv
          have smL : SameRows S (other ++ one) (other ++ sp) := by
            have := same_halved (S := S) (a := other) (c := []) sm2.nn (fun _ h => (nomatch h)) hv
            rwa [List.append_nil, List.append_nil] at this
          refine ⟨_, rfl, _, rfl, _, rfl, sh, l1, z, S, one, sp, rfl, ⟨ll, sl⟩, SS.ok, hr1, sm1.ok, hz20, oksp, sm0, fun H21 s21 => ?_⟩
          have k21 := Kn.same s21
          obtain ⟨bs1, hb1, pb1⟩ := hr1.kn k21
          obtain ⟨bs2, hb2, pb2⟩ := hr2.kn k21
          obtain ⟨bs3, hb3, pb3⟩ := hz20.kn k21
          have lb1 := Paired.length pb1
          have lb2 := Paired.length pb2
          have lb3 := Paired.length pb3
          refine ⟨rfl, false, rfl, iteF ?_⟩
          refine ⟨_, rfl, _, rfl, _, rfl, l1, l2, _, _, rfl, rfl, hb1, hb2, by rw [List.length_map, List.length_map]; exact Nat.le_of_lt (small1000 (by omega)), fun c1 hc1 => ?_⟩
          have rc1 := row_cat pb1 pb2 hc1
          have s22 : Same H21 (upd H21 c1 (.lst (bs1.map V.ref ++ bs2.map V.ref))) := Same.new hc1
          generalize upd H21 c1 (.lst (bs1.map V.ref ++ bs2.map V.ref)) = H22 at rc1 s22 ⊢
          refine ⟨_, rfl, _, rfl, z, l2, _, _, rfl, rfl, s22 _ _ hb3, s22 _ _ hb2, by rw [List.length_map, List.length_map]; exact Nat.le_of_lt (small1000 (by omega)), fun c2 hc2 => ?_⟩
          have k22 := Kn.same s22
          have rc2 := row_cat (paired_imp (fun _ _ e => DeedAt.kn k22 e) pb3) (paired_imp (fun _ _ e => DeedAt.kn k22 e) pb2) hc2
          have s23 : Same H22 (upd H22 c2 (.lst (bs3.map V.ref ++ bs2.map V.ref))) := Same.new hc2
          generalize upd H22 c2 (.lst (bs3.map V.ref ++ bs2.map V.ref)) = H23 at rc2 s23 ⊢
          have k2123 := k22.trans (Kn.same s23)
          refine ⟨sh, c1, c2, S, one ++ other, sp ++ other, rfl, ⟨ll, sl.kn (k21.trans k2123)⟩, SS.ok, rc1.kn (Kn.same s23), ok_cat sm1.ok sm2.ok (by omega), rc2, ok_cat oksp sm2.ok (by omega), smR, fun H24 s24 => ?_⟩
          refine ⟨rfl, false, rfl, ifF rfl ?_⟩
          have k2124 := k2123.trans (Kn.same s24)
          have s2124 : Same H21 H24 := (s22.trans s23).trans s24
          refine ⟨_, rfl, _, rfl, _, rfl, l2, l1, _, _, rfl, rfl, s2124 _ _ hb2, s2124 _ _ hb1, by rw [List.length_map, List.length_map]; exact Nat.le_of_lt (small1000 (by omega)), fun c3 hc3 => ?_⟩
          have rc3 := row_cat (paired_imp (fun _ _ e => DeedAt.kn k2124 e) pb2) (paired_imp (fun _ _ e => DeedAt.kn k2124 e) pb1) hc3
          have s25 : Same H24 (upd H24 c3 (.lst (bs2.map V.ref ++ bs1.map V.ref))) := Same.new hc3
          generalize upd H24 c3 (.lst (bs2.map V.ref ++ bs1.map V.ref)) = H25 at rc3 s25 ⊢
          have s2125 := s2124.trans s25
          have k2125 := Kn.same s2125
          refine ⟨_, rfl, _, rfl, l2, z, _, _, rfl, rfl, s2125 _ _ hb2, s2125 _ _ hb3, by rw [List.length_map, List.length_map]; exact Nat.le_of_lt (small1000 (by omega)), fun c4 hc4 => ?_⟩
          have rc4 := row_cat (paired_imp (fun _ _ e => DeedAt.kn k2125 e) pb2) (paired_imp (fun _ _ e => DeedAt.kn k2125 e) pb3) hc4
          have s26 : Same H25 (upd H25 c4 (.lst (bs2.map V.ref ++ bs3.map V.ref))) := Same.new hc4
          generalize upd H25 c4 (.lst (bs2.map V.ref ++ bs3.map V.ref)) = H26 at rc4 s26 ⊢
          have k2126 := k2125.trans (Kn.same s26)
          refine ⟨sh, c3, c4, S, other ++ one, other ++ sp, rfl, ⟨ll, sl.kn (k21.trans k2126)⟩, SS.ok, rc3.kn (Kn.same s26), ok_cat sm2.ok sm1.ok (by omega), rc4, ok_cat sm2.ok oksp (by omega), smL, fun H27 s27 => ?_⟩
          refine ⟨rfl, false, rfl, iteF ?_⟩
          have k27 := (k21.trans k2126).trans (Kn.same s27)
          refine ⟨_, rfl, _, rfl, by show 2 ≤ sizeLine; decide, fun tp2 ht2 => ?_⟩
          have s28 : Same H27 (upd H27 tp2 (.tup [.ref l1, .ref l2])) := Same.new ht2
          have e28 : upd H27 tp2 (.tup [.ref l1, .ref l2]) tp2 = some (.tup [.ref l1, .ref l2]) := upd_same
          generalize upd H27 tp2 (.tup [.ref l1, .ref l2]) = H28 at s28 e28 ⊢
          have k28 := k27.trans (Kn.same s28)
          refine ⟨tp2, _, rfl, .tup (SqT.of e28) (.cons (dp_row (hr1.kn k28)) (.cons (dp_row (hr2.kn k28)) .nil)), g2.sh, g2.nd, Nat.le_trans g2.dp (by decide), g2.size, ?_⟩
          refine ⟨_, rfl, rfl, false, congrArg V.bl (by rw [decide_eq_true rfl]; rfl), ifF rfl ⟨⟨_, _, _, _, _, _, _, _, _, _, _, _, _, _, rfl⟩, fun b o e => ?_⟩⟩
          have nb : b ≠ p := ne_of_none (s4 _ _ e) hp
          exact (((s21.trans s2125).trans s26).trans (s27.trans s28)) _ _ (np20 _ _ nb ((s18.trans s19) _ _ (np17 _ _ nb (np611 _ _ nb (s6 _ _ (s4 _ _ e))))))
    · rintro σ H4 ⟨⟨x1, x2, x3, x4, x5, x6, x7, x8, x9, x10, x11, x12, x13, x14, rfl⟩, s4⟩
      exact k _
end
end Wm
end
section
set_option Elab.async false
set_option linter.all false
set_option maxRecDepth 100000
set_option maxHeartbeats 0
namespace Wm
open PySem PySem.Spec PyProof.Rows L2
theorem facts {P : Program} {w : World} {K : PySem.W.Frag} {h : Heap} {mg : Str → Option Value} {f : Addr} (T : Tx K mg) (hfa : mg ("law" : Str) = some (.ref f)) :
    ∃ fd : FuncData, (∀ (s : Shared) (v : Value), BindsTo s fd ⟨[v], []⟩ [("_law_script", v)]) ∧ ∀ base : Heap, K.In base → base.Ns mainGlobals mg → FnG P w K mg base 12 f fd ["_law_script"] (sp_law K) := by
  obtain ⟨fd, F⟩ := T.F_law
  have e := hfa.symm.trans T.g_law
  cases e
  have b := FunD.bindsA (ps := ["_law_script"]) F fun _ _ _ _ _ _ us hl => match us, hl with | [_], _ => rfl
  exact ⟨fd, fun s v => b s [v] rfl, fun base _ _ => ok_law T F⟩
end Wm
open PySem PySem.W PySem.Calls PyProof.Rows
theorem PySem.Challenge.cw_wetmarks_k56_whole_webs_put_behind_one_a_holds : PySem.Challenge.rw_wetmarks_k56_whole_webs_put_behind_one_a.Holds := by
  w_on; o_law
  refine HandSHeadRun.head_any (r := OpenLaw.row PySem.Challenge.rw_wetmarks_k56_whole_webs_put_behind_one_a) (q := view (OpenLaw.row PySem.Challenge.rw_wetmarks_k56_whole_webs_put_behind_one_a).prog [55]) (H := Wm.hk) (ob := Wm.ob) (M := 6000) (loose := Wm.loose) (d := HandSHeadRun.topDef (OpenLaw.row PySem.Challenge.rw_wetmarks_k56_whole_webs_put_behind_one_a).prog 55) (kwd := []) Wm.ob_eq
    (by kernel_rfl) (fun s => by kernel_rfl) Wm.run (by kernel_rfl) (by kernel_rfl) (by kernel_rfl) (by rfl) (by first | assumption | decide +kernel) (by decide +kernel) ⟨rfl, rfl, rfl, rfl, rfl, by decide +kernel⟩ ?hw ?hc
  case hw => w_witness2
  case hc =>
    refine Wm.walkG (l := PySem.Challenge.rw_wetmarks_k56_whole_webs_put_behind_one_a) (n := 63) (k := 12) (x := "_law_script") rfl (by decide) (by kernel_rfl) ⟨rfl, by decide, by decide⟩ ?F
    intro w mg fa h Y G hmg0
    obtain ⟨K, KX, c⟩ := Y
    have hmg : mg ("law" : PySem.Str) = some (.ref fa) := by
      have e : (HandSHeadRun.topDef (OpenLaw.row PySem.Challenge.rw_wetmarks_k56_whole_webs_put_behind_one_a).prog 55).name = ("law" : PySem.Str) := by kernel_rfl
      rw [← e]
      exact hmg0
    obtain ⟨fd, hb, hF⟩ := Wm.facts (P := (PySem.Challenge.rw_wetmarks_k56_whole_webs_put_behind_one_a).prog) (w := w) (h := h) (Wm.tx_of KX G c) hmg
    exact ⟨K, fd, Wm.sp_law K, KX, hb, fun H a ns hl _ hS => ⟨a, ns, rfl, hS, fun _ => rfl⟩, hF⟩
end
