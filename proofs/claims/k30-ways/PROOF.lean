import PyProof.Rows.All
import Wide.All
import OpenK.AllK
import Wide.FinOn
import HandS.Base
import HandS.Call
import HandS.List
import HandS.Comp
import HandS.Ends
import HandS.Words
import HandS.WordsList
import HandS.Codes
import HandS.Evl
import HandS.NoneIn
import HandS.Conv
import HandS.Zip
import HandS.IsInst
import HandS.Defaults
import HandS.CallRecv
import HandS.Text
import HandS.Exc
import HandS.TryOnly
import HandS.Lambda
import HandS.EndBits
import HandS.EndTab
import KE.KMinKey
import HandS.MakeKw
import HandS.Head0
import HandS.Head1
import HandS.Head2
import HandS.HeadEnd
import HandS.HeadHook1
import HandS.HeadHook2
import HandS.HeadHook3
import HandS.HeadHook4
import HandS.HeadWalk
import PySem.Challenge.RW_lifehold_k30_whole_ways_of_fewest_and_mo
set_option Elab.async false
set_option linter.all false
set_option maxRecDepth 100000
set_option maxHeartbeats 4000000
section
set_option autoImplicit false
/-! The plain law: tightest differences, ways, counts of days. No program in sight. -/
namespace Lh

abbrev Tie := Int × Int × Int
abbrev Tab := Nat → Nat → Int

/-- the place of a point: the beginning, -1, stands last -/
def nd (m : Nat) (a : Int) : Nat := if a = -1 then m else a.toNat
def tab0 (m : Nat) : Tab := fun i j => if i = j ∨ j = m then 0 else -9999
def upT (T : Tab) (a b : Nat) (v : Int) : Tab := fun i j => if i = a ∧ j = b then v else T i j
def addTie (m : Nat) (T : Tab) (t : Tie) : Tab := upT T (nd m t.1) (nd m t.2.1) (max (T (nd m t.1) (nd m t.2.1)) t.2.2)
def tabT (m : Nat) (ts : List Tie) : Tab := ts.foldl (addTie m) (tab0 m)
def phase (T : Tab) (k : Nat) : Tab := fun i j => max (T i j) (T i k + T k j)
def badDiag (n : Nat) (T : Tab) : Bool := (List.range n).any fun i => decide (0 < T i i)
def fw (n : Nat) (T : Tab) : Nat → Option Tab
  | 0 => some T
  | k + 1 => match fw n T k with
    | none => none
    | some U => if badDiag n (phase U k) = true then none else some (phase U k)
def tableOf (m : Nat) (ts : List Tie) : Option Tab := fw (m + 1) (tabT m ts) (m + 1)

structure GoodTie (m : Nat) (t : Tie) : Prop where
  a0 : -1 ≤ t.1
  a1 : t.1 < m
  b0 : -1 ≤ t.2.1
  b1 : t.2.1 < m
  ne : t.1 ≠ t.2.1

theorem nd_le {m : Nat} {a : Int} (h0 : -1 ≤ a) (h1 : a < m) : nd m a ≤ m := by
  unfold nd
  split <;> omega
theorem nd_ne {m : Nat} {t : Tie} (g : GoodTie m t) : nd m t.1 ≠ nd m t.2.1 := by
  have := g.a0; have := g.a1; have := g.b0; have := g.b1; have := g.ne
  unfold nd
  split <;> split <;> omega

/-- a potential that keeps the ties and the bounds -/
structure Pot (m : Nat) (ts : List Tie) (w : Nat → Int) : Prop where
  lo : ∀ i, i ≤ m → 0 ≤ w i - w m
  hi : ∀ i, i ≤ m → w i - w m ≤ 9999
  tie : ∀ t ∈ ts, t.2.2 ≤ w (nd m t.1) - w (nd m t.2.1)

def Sound (m : Nat) (w : Nat → Int) (T : Tab) : Prop := ∀ i j, i ≤ m → j ≤ m → T i j ≤ w i - w j

theorem tab0_sound {m : Nat} {ts : List Tie} {w : Nat → Int} (p : Pot m ts w) : Sound m w (tab0 m) := fun i j hi hj => by
  have a1 := p.lo i hi; have a2 := p.hi i hi; have b1 := p.lo j hj; have b2 := p.hi j hj
  unfold tab0
  split
  · rename_i h
    rcases h with h | h
    · subst h; omega
    · subst h; omega
  · omega
theorem addTie_sound {m : Nat} {w : Nat → Int} {T : Tab} {t : Tie} (g : GoodTie m t) (s : Sound m w T) (k : t.2.2 ≤ w (nd m t.1) - w (nd m t.2.1)) : Sound m w (addTie m T t) := fun i j hi hj => by
  have h := s i j hi hj
  unfold addTie upT
  split
  · rename_i e
    obtain ⟨e1, e2⟩ := e
    subst e1; subst e2
    omega
  · exact h
theorem foldTie_sound {m : Nat} {w : Nat → Int} : ∀ (ts : List Tie) (T : Tab), (∀ t ∈ ts, GoodTie m t) → Sound m w T → (∀ t ∈ ts, t.2.2 ≤ w (nd m t.1) - w (nd m t.2.1)) → Sound m w (ts.foldl (addTie m) T)
  | [], _, _, s, _ => s
  | t :: ts, T, g, s, k => foldTie_sound ts _ (fun x hx => g x (List.mem_cons_of_mem _ hx)) (addTie_sound (g t (List.mem_cons_self ..)) s (k t (List.mem_cons_self ..))) (fun x hx => k x (List.mem_cons_of_mem _ hx))
theorem tabT_sound {m : Nat} {ts : List Tie} {w : Nat → Int} (g : ∀ t ∈ ts, GoodTie m t) (p : Pot m ts w) : Sound m w (tabT m ts) := foldTie_sound ts _ g (tab0_sound p) p.tie

theorem addTie_ge {m : Nat} {T : Tab} {t : Tie} (i j : Nat) : T i j ≤ addTie m T t i j := by
  unfold addTie upT
  split
  · rename_i e
    obtain ⟨e1, e2⟩ := e
    subst e1; subst e2
    omega
  · exact Int.le_refl _
theorem foldTie_ge {m : Nat} : ∀ (ts : List Tie) (T : Tab) (i j : Nat), T i j ≤ ts.foldl (addTie m) T i j
  | [], _, _, _ => Int.le_refl _
  | _ :: ts, _, i, j => Int.le_trans (addTie_ge i j) (foldTie_ge ts _ i j)
theorem foldTie_tie {m : Nat} : ∀ (ts : List Tie) (T : Tab) (t : Tie), t ∈ ts → t.2.2 ≤ ts.foldl (addTie m) T (nd m t.1) (nd m t.2.1)
  | [], _, _, h => by cases h
  | u :: ts, T, t, h => by
    rcases List.mem_cons.mp h with h | h
    · subst h
      refine Int.le_trans ?_ (foldTie_ge ts _ _ _)
      unfold addTie upT
      rw [if_pos ⟨rfl, rfl⟩]
      omega
    · exact foldTie_tie ts _ t h
theorem foldTie_diag {m : Nat} : ∀ (ts : List Tie) (T : Tab), (∀ t ∈ ts, GoodTie m t) → (∀ i, T i i = 0) → ∀ i, ts.foldl (addTie m) T i i = 0
  | [], _, _, h, i => h i
  | u :: ts, T, g, h, i => by
    refine foldTie_diag ts _ (fun x hx => g x (List.mem_cons_of_mem _ hx)) (fun j => ?_) i
    unfold addTie upT
    rw [if_neg]
    · exact h j
    · intro e
      exact nd_ne (g u (List.mem_cons_self ..)) (e.1.symm.trans e.2)
theorem tab0_diag (m i : Nat) : tab0 m i i = 0 := by
  unfold tab0
  rw [if_pos (Or.inl rfl)]

theorem phase_sound {m : Nat} {w : Nat → Int} {T : Tab} {k : Nat} (s : Sound m w T) (hk : k ≤ m) : Sound m w (phase T k) := fun i j hi hj => by
  have h1 := s i j hi hj; have h2 := s i k hi hk; have h3 := s k j hk hj
  unfold phase
  omega
theorem badDiag_not {n : Nat} {T : Tab} (h : ¬ badDiag n T = true) : ∀ i, i < n → T i i ≤ 0 := fun i hi => by
  unfold badDiag at h
  have h2 : ¬ (0 < T i i) := fun z => h (List.any_eq_true.mpr ⟨i, List.mem_range.mpr hi, decide_eq_true z⟩)
  omega
theorem badDiag_yes {n : Nat} {T : Tab} (h : badDiag n T = true) : ∃ i, i < n ∧ 0 < T i i := by
  unfold badDiag at h
  obtain ⟨i, hi, h2⟩ := List.any_eq_true.mp h
  exact ⟨i, List.mem_range.mp hi, of_decide_eq_true h2⟩
theorem fw_sound {m : Nat} {w : Nat → Int} {T : Tab} (s : Sound m w T) : ∀ k, k ≤ m + 1 → ∃ U, fw (m + 1) T k = some U ∧ Sound m w U
  | 0, _ => ⟨T, rfl, s⟩
  | k + 1, hk => by
    obtain ⟨U, e, su⟩ := fw_sound s k (by omega)
    have sp : Sound m w (phase U k) := phase_sound su (by omega)
    refine ⟨phase U k, ?_, sp⟩
    show (match fw (m + 1) T k with | none => none | some U => if badDiag (m + 1) (phase U k) = true then none else some (phase U k)) = _
    rw [e]
    show (if badDiag (m + 1) (phase U k) = true then none else some (phase U k)) = _
    rw [if_neg]
    intro h
    obtain ⟨i, hi, h2⟩ := badDiag_yes h
    have := sp i i (by omega) (by omega)
    omega
theorem fw_facts {n : Nat} {T : Tab} (d : ∀ i, i < n → T i i ≤ 0) : ∀ (k : Nat) (U : Tab), k ≤ n → fw n T k = some U →
    (∀ i j, T i j ≤ U i j) ∧ (∀ i, i < n → U i i ≤ 0) ∧ (∀ l, l < k → ∀ i j, U i l + U l j ≤ U i j)
  | 0, U, _, h => by
    have e : T = U := Option.some.inj h
    subst e
    exact ⟨fun _ _ => Int.le_refl _, d, fun l hl => absurd hl (Nat.not_lt_zero l)⟩
  | k + 1, U, hk, h => by
    have h' : (match fw n T k with | none => none | some U => if badDiag n (phase U k) = true then none else some (phase U k)) = some U := h
    cases e : fw n T k with
    | none => rw [e] at h'; cases h'
    | some V =>
      rw [e] at h'
      have h2 : (if badDiag n (phase V k) = true then none else some (phase V k)) = some U := h'
      by_cases hb : badDiag n (phase V k) = true
      · rw [if_pos hb] at h2; cases h2
      · rw [if_neg hb] at h2
        have e2 : phase V k = U := Option.some.inj h2
        subst e2
        obtain ⟨g, dd, c⟩ := fw_facts d k V (by omega) e
        refine ⟨fun i j => ?_, badDiag_not hb, fun l hl i j => ?_⟩
        · have := g i j
          unfold phase
          omega
        · have hkk := dd k (by omega)
          by_cases el : l = k
          · subst el
            unfold phase
            omega
          · have hl' : l < k := by omega
            have a1 := c l hl' i j
            have a2 := c l hl' k j
            have a3 := c l hl' i k
            have a4 := c l hl' k k
            unfold phase
            omega

structure Tight (m : Nat) (ts : List Tie) (U : Tab) : Prop where
  tri : ∀ l, l ≤ m → ∀ i j, U i l + U l j ≤ U i j
  diag : ∀ i, i ≤ m → U i i = 0
  base : ∀ i j, tab0 m i j ≤ U i j
  tie : ∀ t ∈ ts, t.2.2 ≤ U (nd m t.1) (nd m t.2.1)
  sound : ∀ w, Pot m ts w → Sound m w U

theorem table_some {m : Nat} {ts : List Tie} {U : Tab} (g : ∀ t ∈ ts, GoodTie m t) (h : tableOf m ts = some U) : Tight m ts U := by
  have d0 : ∀ i, tabT m ts i i = 0 := foldTie_diag ts _ g (tab0_diag m)
  obtain ⟨a, b, c⟩ := fw_facts (n := m + 1) (T := tabT m ts) (fun i _ => by rw [d0]; omega) (m + 1) U (Nat.le_refl _) h
  refine ⟨fun l hl => c l (by omega), fun i hi => ?_, fun i j => Int.le_trans (foldTie_ge ts _ i j) (a i j), fun t ht => Int.le_trans (foldTie_tie ts _ t ht) (a _ _), fun w p => ?_⟩
  · have h1 := b i (by omega)
    have h2 := a i i
    rw [d0] at h2
    omega
  · obtain ⟨V, e, s⟩ := fw_sound (tabT_sound g p) (m + 1) (Nat.le_refl _)
    have e2 : some V = some U := e.symm.trans h
    cases e2
    exact s
theorem table_pot {m : Nat} {ts : List Tie} {w : Nat → Int} (g : ∀ t ∈ ts, GoodTie m t) (p : Pot m ts w) : ∃ U, tableOf m ts = some U := by
  obtain ⟨V, e, _⟩ := fw_sound (tabT_sound g p) (m + 1) (Nat.le_refl _)
  exact ⟨V, e⟩

section
variable {m : Nat} {ts : List Tie} {U : Tab} (t : Tight m ts U)
include t
theorem Tight.life0 (i : Nat) : 0 ≤ U i m := by
  have := t.base i m
  unfold tab0 at this
  rw [if_pos (Or.inr rfl)] at this
  exact this
theorem Tight.low (i j : Nat) : -9999 ≤ U i j := by
  have := t.base i j
  unfold tab0 at this
  split at this <;> omega
theorem Tight.pos {u : Tie} (hu : u ∈ ts) (g : ∀ t ∈ ts, GoodTie m t) : nd m u.1 ≤ m ∧ nd m u.2.1 ≤ m :=
  ⟨nd_le (g u hu).a0 (g u hu).a1, nd_le (g u hu).b0 (g u hu).b1⟩
theorem Tight.col (g : ∀ t ∈ ts, GoodTie m t) (j : Nat) : Pot m ts (fun i => U i j) := by
  refine ⟨fun i hi => ?_, fun i hi => ?_, fun u hu => ?_⟩
  · have h1 := t.tri m (Nat.le_refl _) i j
    have h2 := t.life0 i
    show 0 ≤ U i j - U m j
    omega
  · have h1 := t.tri i hi m j
    have h2 := t.low m i
    show U i j - U m j ≤ 9999
    omega
  · have h2 := t.tie u hu
    have h1 := t.tri (nd m u.2.1) (nd_le (g u hu).b0 (g u hu).b1) (nd m u.1) j
    show u.2.2 ≤ U (nd m u.1) j - U (nd m u.2.1) j
    omega
theorem Tight.row (g : ∀ t ∈ ts, GoodTie m t) (j : Nat) : Pot m ts (fun i => - U j i) := by
  refine ⟨fun i hi => ?_, fun i hi => ?_, fun u hu => ?_⟩
  · have h1 := t.tri i hi j m
    have h2 := t.life0 i
    show 0 ≤ - U j i - - U j m
    omega
  · have h1 := t.tri m (Nat.le_refl _) j i
    have h2 := t.low m i
    show - U j i - - U j m ≤ 9999
    omega
  · have h2 := t.tie u hu
    have h1 := t.tri (nd m u.1) (nd_le (g u hu).a0 (g u hu).a1) j (nd m u.2.1)
    show u.2.2 ≤ - U j (nd m u.1) - - U j (nd m u.2.1)
    omega
end

/-! ### ways as lists of days -/
def dayOf (d : List Int) (a : Int) : Int := if a < 0 then 0 else d.getD a.toNat 0
structure Way (m : Nat) (ts : List Tie) (d : List Int) : Prop where
  len : d.length = m
  lo : ∀ x ∈ d, 0 ≤ x
  hi : ∀ x ∈ d, x ≤ 9999
  tie : ∀ t ∈ ts, t.2.2 ≤ dayOf d t.1 - dayOf d t.2.1

theorem dayOf_nd {m : Nat} {d : List Int} (h : d.length = m) {a : Int} (h0 : -1 ≤ a) : dayOf d a = d.getD (nd m a) 0 := by
  unfold dayOf nd
  by_cases e : a = -1
  · rw [if_pos (by omega), if_pos e, List.getD_eq_getElem?_getD, List.getElem?_eq_none_iff.mpr (by omega)]
    rfl
  · rw [if_neg (by omega), if_neg e]
theorem getD_range {d : List Int} {P : Int → Prop} (h : ∀ x ∈ d, P x) (h0 : P 0) (i : Nat) : P (d.getD i 0) := by
  rw [List.getD_eq_getElem?_getD]
  cases e : d[i]? with
  | none => exact h0
  | some x => exact h x (List.mem_of_getElem? e)
theorem Way.pot {m : Nat} {ts : List Tie} {d : List Int} (g : ∀ t ∈ ts, GoodTie m t) (w : Way m ts d) : Pot m ts (fun i => d.getD i 0) := by
  have z : d.getD m 0 = 0 := by
    rw [List.getD_eq_getElem?_getD, List.getElem?_eq_none_iff.mpr (by rw [w.len]; exact Nat.le_refl _)]
    rfl
  refine ⟨fun i _ => ?_, fun i _ => ?_, fun t ht => ?_⟩
  · have := getD_range (P := fun x => 0 ≤ x) w.lo (Int.le_refl _) i
    show 0 ≤ d.getD i 0 - d.getD m 0
    omega
  · have := getD_range (P := fun x => x ≤ 9999) w.hi (by decide) i
    show d.getD i 0 - d.getD m 0 ≤ 9999
    omega
  · have h := w.tie t ht
    rw [dayOf_nd w.len (g t ht).a0, dayOf_nd w.len (g t ht).b0] at h
    exact h
def wayOf (m : Nat) (w : Nat → Int) : List Int := (List.range m).map fun i => w i - w m
theorem wayOf_get {m : Nat} {w : Nat → Int} {i : Nat} (h : i ≤ m) : (wayOf m w).getD i 0 = w i - w m := by
  unfold wayOf
  rw [List.getD_eq_getElem?_getD, List.getElem?_map]
  by_cases e : i = m
  · subst e
    rw [List.getElem?_eq_none_iff.mpr (by rw [List.length_range]; exact Nat.le_refl _)]
    show (0 : Int) = _
    omega
  · rw [List.getElem?_range (by omega)]
    rfl
theorem Pot.way {m : Nat} {ts : List Tie} {w : Nat → Int} (g : ∀ t ∈ ts, GoodTie m t) (p : Pot m ts w) : Way m ts (wayOf m w) := by
  have len : (wayOf m w).length = m := by
    unfold wayOf
    rw [List.length_map, List.length_range]
  refine ⟨len, fun x hx => ?_, fun x hx => ?_, fun t ht => ?_⟩
  · unfold wayOf at hx
    obtain ⟨i, hi, e⟩ := List.mem_map.mp hx
    have := p.lo i (by have := List.mem_range.mp hi; omega)
    omega
  · unfold wayOf at hx
    obtain ⟨i, hi, e⟩ := List.mem_map.mp hx
    have := p.hi i (by have := List.mem_range.mp hi; omega)
    omega
  · rw [dayOf_nd len (g t ht).a0, dayOf_nd len (g t ht).b0, wayOf_get (nd_le (g t ht).a0 (g t ht).a1), wayOf_get (nd_le (g t ht).b0 (g t ht).b1)]
    have := p.tie t ht
    omega
theorem table_none {m : Nat} {ts : List Tie} {d : List Int} (g : ∀ t ∈ ts, GoodTie m t) (h : tableOf m ts = none) : ¬ Way m ts d := fun w => by
  obtain ⟨U, e⟩ := table_pot g (w.pot g)
  rw [h] at e
  cases e
/-- what a table says of a way -/
theorem Tight.way {m : Nat} {ts : List Tie} {U : Tab} (t : Tight m ts U) (g : ∀ t ∈ ts, GoodTie m t) {d : List Int} (w : Way m ts d) {i j : Nat} (hi : i ≤ m) (hj : j ≤ m) : U i j ≤ d.getD i 0 - d.getD j 0 :=
  t.sound _ (w.pot g) i j hi hj
def earlyL (m : Nat) (U : Tab) : List Int := (List.range m).map fun i => U i m
def lateL (m : Nat) (U : Tab) : List Int := (List.range m).map fun i => - U m i
theorem Tight.early {m : Nat} {ts : List Tie} {U : Tab} (t : Tight m ts U) (g : ∀ t ∈ ts, GoodTie m t) : Way m ts (earlyL m U) := by
  have h := (t.col g m).way g
  have e : wayOf m (fun i => U i m) = earlyL m U := by
    unfold wayOf earlyL
    refine List.map_congr_left fun i _ => ?_
    have := t.diag m (Nat.le_refl _)
    show U i m - U m m = U i m
    omega
  rw [e] at h
  exact h
theorem Tight.late {m : Nat} {ts : List Tie} {U : Tab} (t : Tight m ts U) (g : ∀ t ∈ ts, GoodTie m t) : Way m ts (lateL m U) := by
  have h := (t.row g m).way g
  have e : wayOf m (fun i => - U m i) = lateL m U := by
    unfold wayOf lateL
    refine List.map_congr_left fun i _ => ?_
    have := t.diag m (Nat.le_refl _)
    show - U m i - - U m m = - U m i
    omega
  rw [e] at h
  exact h
theorem Way.app {m : Nat} {ts us : List Tie} {d : List Int} : Way m (ts ++ us) d ↔ Way m ts d ∧ ∀ t ∈ us, t.2.2 ≤ dayOf d t.1 - dayOf d t.2.1 := by
  constructor
  · intro w
    exact ⟨⟨w.len, w.lo, w.hi, fun t ht => w.tie t (List.mem_append_left _ ht)⟩, fun t ht => w.tie t (List.mem_append_right _ ht)⟩
  · intro ⟨w, k⟩
    exact ⟨w.len, w.lo, w.hi, fun t ht => (List.mem_append.mp ht).elim (w.tie t) (k t)⟩

/-! ### counts of days -/
/-- where the next one's days begin, behind the elders -/
def hereOf (d : Nat → Int) (stop : Int) : List Nat → Int → Int
  | [], here => here
  | l :: r, here => hereOf d stop r (if here < min stop (d l) then min stop (d l) else here)
def turnsOf (d : Nat → Int) (stop : Int) : List Nat → Int → List (Nat × Int × Int)
  | [], _ => []
  | l :: r, here => if here < min stop (d l) then (l, here, min stop (d l)) :: turnsOf d stop r (min stop (d l)) else turnsOf d stop r here
def cntT (own : Nat) (xs : List (Nat × Int × Int)) : Int := ((xs.filter fun x => decide (x.1 = own)).map fun x => x.2.2 - x.2.1).sum
/-- the days that one holds behind its elders -/
def cnt (d : Nat → Int) (es : List Nat) (own : Nat) (start stop : Int) : Int := max 0 (min stop (d own) - hereOf d stop es start)

theorem hereOf_le {d : Nat → Int} {stop x : Int} : ∀ (es : List Nat) (here : Int), hereOf d stop es here ≤ x ↔ here ≤ x ∧ ∀ e ∈ es, min stop (d e) ≤ x
  | [], here => by
    show here ≤ x ↔ _
    constructor
    · intro h; exact ⟨h, fun e he => by cases he⟩
    · intro h; exact h.1
  | l :: r, here => by
    show hereOf d stop r _ ≤ x ↔ _
    rw [hereOf_le r]
    constructor
    · intro ⟨h1, h2⟩
      refine ⟨by split at h1 <;> omega, fun e he => ?_⟩
      rcases List.mem_cons.mp he with he | he
      · subst he
        split at h1 <;> omega
      · exact h2 e he
    · intro ⟨h1, h2⟩
      refine ⟨?_, fun e he => h2 e (List.mem_cons_of_mem _ he)⟩
      have := h2 l (List.mem_cons_self ..)
      split <;> omega
theorem cntT_cons {own : Nat} {x : Nat × Int × Int} {xs : List (Nat × Int × Int)} : cntT own (x :: xs) = (if x.1 = own then x.2.2 - x.2.1 else 0) + cntT own xs := by
  unfold cntT
  rw [List.filter_cons]
  by_cases h : x.1 = own
  · rw [if_pos (decide_eq_true h), if_pos h, List.map_cons, List.sum_cons]
  · rw [if_neg (by rw [decide_eq_false h]; decide), if_neg h, Int.zero_add]
theorem cntT_none {d : Nat → Int} {stop : Int} {own : Nat} : ∀ (r : List Nat) (here : Int), own ∉ r → cntT own (turnsOf d stop r here) = 0
  | [], _, _ => rfl
  | l :: r, here, h => by
    have h1 : ¬ l = own := fun e => h (by rw [e]; exact List.mem_cons_self ..)
    have h2 : own ∉ r := fun e => h (List.mem_cons_of_mem _ e)
    show cntT own (if here < min stop (d l) then (l, here, min stop (d l)) :: turnsOf d stop r (min stop (d l)) else turnsOf d stop r here) = 0
    split
    · rw [cntT_cons, if_neg h1, cntT_none r _ h2]
      rfl
    · exact cntT_none r _ h2
theorem cntT_turns {d : Nat → Int} {stop : Int} {own : Nat} {rest : List Nat} (hr : own ∉ rest) : ∀ (es : List Nat) (here : Int), own ∉ es → cntT own (turnsOf d stop (es ++ own :: rest) here) = cnt d es own here stop
  | [], here, _ => by
    show cntT own (if here < min stop (d own) then (own, here, min stop (d own)) :: turnsOf d stop rest (min stop (d own)) else turnsOf d stop rest here) = max 0 (min stop (d own) - here)
    split
    · rw [cntT_cons, if_pos rfl, cntT_none rest _ hr]
      show min stop (d own) - here + 0 = _
      omega
    · rw [cntT_none rest _ hr]
      omega
  | l :: es, here, h => by
    have h1 : ¬ l = own := fun e => h (by rw [e]; exact List.mem_cons_self ..)
    have h2 : own ∉ es := fun e => h (List.mem_cons_of_mem _ e)
    show cntT own (if here < min stop (d l) then (l, here, min stop (d l)) :: turnsOf d stop (es ++ own :: rest) (min stop (d l)) else turnsOf d stop (es ++ own :: rest) here) = max 0 (min stop (d own) - hereOf d stop es (if here < min stop (d l) then min stop (d l) else here))
    split
    · rw [cntT_cons, if_neg h1, cntT_turns hr es _ h2, Int.zero_add]
      rfl
    · rw [cntT_turns hr es _ h2]
      rfl
theorem cnt_nonneg {d : Nat → Int} {es : List Nat} {own : Nat} {start stop : Int} : 0 ≤ cnt d es own start stop := by
  unfold cnt
  omega
theorem cnt_le {d : Nat → Int} {es : List Nat} {own : Nat} {start stop : Int} (h : start ≤ stop) : cnt d es own start stop ≤ stop - start := by
  unfold cnt
  have h0 : start ≤ hereOf d stop es start := ((hereOf_le es start).mp (Int.le_refl _)).1
  omega
structure Cond (D : Nat → Int) (es : List Nat) (own : Nat) (start stop c : Int) : Prop where
  run : start + c ≤ stop
  mine : start + c ≤ D own
  el : ∀ e ∈ es, c ≤ D own - D e ∧ D e ≤ stop - c
theorem cnt_ge {D : Nat → Int} {es : List Nat} {own : Nat} {start stop c : Int} (hc : 1 ≤ c) : c ≤ cnt D es own start stop ↔ Cond D es own start stop c := by
  have k : c ≤ cnt D es own start stop ↔ hereOf D stop es start ≤ min stop (D own) - c := by
    unfold cnt
    omega
  rw [k, hereOf_le]
  constructor
  · intro ⟨h1, h2⟩
    refine ⟨by omega, by omega, fun e he => ?_⟩
    have := h2 e he
    omega
  · intro h
    have := h.run
    have := h.mine
    refine ⟨by omega, fun e he => ?_⟩
    have := h.el e he
    omega

/-! ### the ties by which one holds so many days, fewest, most -/
def moreT (es : List Nat) (own : Nat) (start stop c : Int) : List Tie :=
  ((own : Int), -1, start + c) :: es.flatMap fun e : Nat => [((own : Int), (e : Int), c), (-1, (e : Int), c - stop)]
def dl (d : List Int) : Nat → Int := fun i => d.getD i 0
theorem dayOf_nat (d : List Int) (i : Nat) : dayOf d (i : Int) = dl d i := by
  unfold dayOf dl
  rw [if_neg (by omega)]
  rfl
theorem dayOf_beg (d : List Int) : dayOf d (-1) = 0 := by
  unfold dayOf
  rw [if_pos (by decide)]
theorem more_keeps {d : List Int} {es : List Nat} {own : Nat} {start stop c : Int} (hr : start + c ≤ stop) :
    (∀ t ∈ moreT es own start stop c, t.2.2 ≤ dayOf d t.1 - dayOf d t.2.1) ↔ Cond (dl d) es own start stop c := by
  unfold moreT
  constructor
  · intro h
    refine ⟨hr, ?_, fun e he => ?_⟩
    · have h1 : start + c ≤ dayOf d (own : Int) - dayOf d (-1) := h _ (List.mem_cons_self ..)
      rw [dayOf_nat, dayOf_beg] at h1
      omega
    · have h1 : c ≤ dayOf d (own : Int) - dayOf d (e : Int) := h ((own : Int), (e : Int), c) (List.mem_cons_of_mem _ (List.mem_flatMap.mpr ⟨e, he, List.mem_cons_self ..⟩))
      have h2 : c - stop ≤ dayOf d (-1) - dayOf d (e : Int) := h (-1, (e : Int), c - stop) (List.mem_cons_of_mem _ (List.mem_flatMap.mpr ⟨e, he, List.mem_cons_of_mem _ (List.mem_cons_self ..)⟩))
      rw [dayOf_nat, dayOf_nat] at h1
      rw [dayOf_nat, dayOf_beg] at h2
      omega
  · intro h t ht
    rcases List.mem_cons.mp ht with ht | ht
    · subst ht
      show start + c ≤ dayOf d (own : Int) - dayOf d (-1)
      rw [dayOf_nat, dayOf_beg]
      have := h.mine
      omega
    · obtain ⟨e, he, ht⟩ := List.mem_flatMap.mp ht
      have := h.el e he
      rcases List.mem_cons.mp ht with ht | ht
      · subst ht
        show c ≤ dayOf d (own : Int) - dayOf d (e : Int)
        rw [dayOf_nat, dayOf_nat]
        omega
      · rw [List.mem_singleton.mp ht]
        show c - stop ≤ dayOf d (-1) - dayOf d (e : Int)
        rw [dayOf_nat, dayOf_beg]
        omega
theorem more_good {m : Nat} {es : List Nat} {own : Nat} {start stop c : Int} (ho : own < m) (he : ∀ e ∈ es, e < m) (hn : own ∉ es) : ∀ t ∈ moreT es own start stop c, GoodTie m t := fun t ht => by
  unfold moreT at ht
  rcases List.mem_cons.mp ht with ht | ht
  · subst ht
    exact ⟨by show (-1 : Int) ≤ own; omega, by show (own : Int) < m; omega, Int.le_refl _, by show (-1 : Int) < m; omega, by show (own : Int) ≠ -1; omega⟩
  · obtain ⟨e, hm, ht⟩ := List.mem_flatMap.mp ht
    have h1 := he e hm
    have h2 : own ≠ e := fun z => hn (by rw [z]; exact hm)
    rcases List.mem_cons.mp ht with ht | ht
    · subst ht
      exact ⟨by show (-1 : Int) ≤ own; omega, by show (own : Int) < m; omega, by show (-1 : Int) ≤ e; omega, by show (e : Int) < m; omega, by show (own : Int) ≠ e; omega⟩
    · rw [List.mem_singleton.mp ht]
      exact ⟨Int.le_refl _, by show (-1 : Int) < m; omega, by show (-1 : Int) ≤ e; omega, by show (e : Int) < m; omega, by show (-1 : Int) ≠ (e : Int); omega⟩

/-- the question about a life of a row in a run of days, with ties that some way keeps -/
structure Ask (m : Nat) (ts : List Tie) (es : List Nat) (own : Nat) (start stop : Int) : Prop where
  good : ∀ t ∈ ts, GoodTie m t
  any : ∃ d, Way m ts d
  ho : own < m
  he : ∀ e ∈ es, e < m
  hn : own ∉ es
  run : start < stop
def IsFew (m : Nat) (ts : List Tie) (es : List Nat) (own : Nat) (start stop z : Int) : Prop :=
  (∀ d, Way m ts d → z ≤ cnt (dl d) es own start stop) ∧ ∃ d, Way m ts d ∧ cnt (dl d) es own start stop = z
def IsMost (m : Nat) (ts : List Tie) (es : List Nat) (own : Nat) (start stop z : Int) : Prop :=
  (∀ d, Way m ts d → cnt (dl d) es own start stop ≤ z) ∧ ∃ d, Way m ts d ∧ cnt (dl d) es own start stop = z
theorem IsFew.uniq {m : Nat} {ts : List Tie} {es : List Nat} {own : Nat} {start stop z y : Int} (a : IsFew m ts es own start stop z) (b : IsFew m ts es own start stop y) : z = y := by
  obtain ⟨a1, d, w, e⟩ := a
  obtain ⟨b1, d', w', e'⟩ := b
  have := a1 d' w'
  have := b1 d w
  omega
theorem IsMost.uniq {m : Nat} {ts : List Tie} {es : List Nat} {own : Nat} {start stop z y : Int} (a : IsMost m ts es own start stop z) (b : IsMost m ts es own start stop y) : z = y := by
  obtain ⟨a1, d, w, e⟩ := a
  obtain ⟨b1, d', w', e'⟩ := b
  have := a1 d' w'
  have := b1 d w
  omega

section
variable {m : Nat} {ts : List Tie} {es : List Nat} {own : Nat} {start stop : Int} (A : Ask m ts es own start stop)
include A
theorem Ask.moreGood (c : Int) : ∀ t ∈ ts ++ moreT es own start stop c, GoodTie m t := fun t ht =>
  (List.mem_append.mp ht).elim (A.good t) (more_good A.ho A.he A.hn t)
theorem Ask.more_none {c : Int} (h1 : 1 ≤ c) (hr : start + c ≤ stop) (h : tableOf m (ts ++ moreT es own start stop c) = none) {d : List Int} (w : Way m ts d) : cnt (dl d) es own start stop < c := by
  by_cases k : c ≤ cnt (dl d) es own start stop
  · exact absurd (Way.app.mpr ⟨w, (more_keeps hr).mpr ((cnt_ge h1).mp k)⟩) (table_none (A.moreGood c) h)
  · omega
/-- the most days, by what the halving tells -/
theorem Ask.most {z : Int} (z0 : 0 ≤ z) (z1 : z ≤ stop - start) (hz : 0 < z → ∃ V, tableOf m (ts ++ moreT es own start stop z) = some V) (hn : z < stop - start → tableOf m (ts ++ moreT es own start stop (z + 1)) = none) {U : Tab} (hU : tableOf m ts = some U) :
    IsMost m ts es own start stop z ∧ (z = 0 → Way m ts (lateL m U) ∧ cnt (dl (lateL m U)) es own start stop = z) ∧
      ∀ V, 0 < z → tableOf m (ts ++ moreT es own start stop z) = some V → Way m ts (lateL m V) ∧ cnt (dl (lateL m V)) es own start stop = z := by
  have up : ∀ d, Way m ts d → cnt (dl d) es own start stop ≤ z := fun d w => by
    have h1 := cnt_le (d := dl d) (es := es) (own := own) (Int.le_of_lt A.run)
    by_cases e : z < stop - start
    · have := A.more_none (by omega) (by omega) (hn e) w
      omega
    · omega
  have zero : z = 0 → Way m ts (lateL m U) ∧ cnt (dl (lateL m U)) es own start stop = z := fun e => by
    have w := (table_some A.good hU).late A.good
    refine ⟨w, ?_⟩
    have h1 := up _ w
    have h2 := cnt_nonneg (d := dl (lateL m U)) (es := es) (own := own) (start := start) (stop := stop)
    omega
  have pos : ∀ V, 0 < z → tableOf m (ts ++ moreT es own start stop z) = some V → Way m ts (lateL m V) ∧ cnt (dl (lateL m V)) es own start stop = z := fun V p e => by
    have w := (table_some (A.moreGood z) e).late (A.moreGood z)
    obtain ⟨w1, w2⟩ := Way.app.mp w
    have h1 := up _ w1
    have h2 := (cnt_ge (by omega)).mpr ((more_keeps (by omega)).mp w2)
    exact ⟨w1, by omega⟩
  refine ⟨⟨up, ?_⟩, zero, pos⟩
  by_cases e : z = 0
  · exact ⟨_, zero e⟩
  · obtain ⟨V, hV⟩ := hz (by omega)
    exact ⟨_, pos V (by omega) hV⟩
/-- no way has more: what the law's own raising of days would show -/
theorem Ask.no_more {z : Int} (h : IsMost m ts es own start stop z) (z0 : 0 ≤ z) (hr : start + (z + 1) ≤ stop) {d : List Int} (w : Way m (ts ++ moreT es own start stop (z + 1)) d) : False := by
  obtain ⟨w1, w2⟩ := Way.app.mp w
  have h1 := (cnt_ge (by omega)).mpr ((more_keeps hr).mp w2)
  have h2 := h.1 d w1
  omega
end

/-! ### the endings: by which days are few -/
def endings (m : Nat) (U : Tab) (es : List Nat) (own : Nat) (start stop : Int) : List (Int × Option Tie) :=
  [(stop - start, none), (U own m - start, some (-1, (own : Int), -start - (U own m - start)))] ++
    es.flatMap fun e : Nat => [(U own e, some ((e : Int), (own : Int), -(U own e))), (stop + U m e, some ((e : Int), -1, stop - (stop + U m e)))]
theorem mem_endings {m : Nat} {U : Tab} {es : List Nat} {own : Nat} {start stop : Int} {p : Int × Option Tie} : p ∈ endings m U es own start stop ↔
    p = (stop - start, none) ∨ p = (U own m - start, some (-1, (own : Int), -start - (U own m - start))) ∨ ∃ e ∈ es, p = (U own e, some ((e : Int), (own : Int), -(U own e))) ∨ p = (stop + U m e, some ((e : Int), -1, stop - (stop + U m e))) := by
  unfold endings
  rw [List.mem_append, List.mem_flatMap]
  simp only [List.mem_cons, List.mem_nil_iff, or_false]
  constructor
  · rintro ((h | h) | h)
    · exact .inl h
    · exact .inr (.inl h)
    · exact .inr (.inr h)
  · rintro (h | h | h)
    · exact .inl (.inl h)
    · exact .inl (.inr h)
    · exact .inr h
theorem dl_len {m : Nat} {d : List Int} (h : d.length = m) : d.getD m 0 = 0 := by
  rw [List.getD_eq_getElem?_getD, List.getElem?_eq_none_iff.mpr (by rw [h]; exact Nat.le_refl _)]
  rfl
section
variable {m : Nat} {ts : List Tie} {es : List Nat} {own : Nat} {start stop : Int} (A : Ask m ts es own start stop) {U : Tab} (hU : tableOf m ts = some U)
include A hU
theorem Ask.few_le {v : Int} (h : ∀ q ∈ endings m U es own start stop, v ≤ q.1) {d : List Int} (w : Way m ts d) : max 0 v ≤ cnt (dl d) es own start stop := by
  have T := table_some A.good hU
  by_cases p : 1 ≤ v
  · have k : v ≤ cnt (dl d) es own start stop := by
      refine (cnt_ge p).mpr ⟨?_, ?_, fun e he => ⟨?_, ?_⟩⟩
      · have := h _ (mem_endings.mpr (.inl rfl))
        have e : (stop - start, (none : Option Tie)).1 = stop - start := rfl
        rw [e] at this
        omega
      · have h1 := h _ (mem_endings.mpr (.inr (.inl rfl)))
        have h2 := T.way A.good w (i := own) (j := m) (Nat.le_of_lt A.ho) (Nat.le_refl _)
        rw [dl_len w.len] at h2
        have h3 : v ≤ U own m - start := h1
        show start + v ≤ d.getD own 0
        omega
      · have h1 : v ≤ U own e := h _ (mem_endings.mpr (.inr (.inr ⟨e, he, .inl rfl⟩)))
        have h2 := T.way A.good w (i := own) (j := e) (Nat.le_of_lt A.ho) (Nat.le_of_lt (A.he e he))
        show v ≤ d.getD own 0 - d.getD e 0
        omega
      · have h1 : v ≤ stop + U m e := h _ (mem_endings.mpr (.inr (.inr ⟨e, he, .inr rfl⟩)))
        have h2 := T.way A.good w (i := m) (j := e) (Nat.le_refl _) (Nat.le_of_lt (A.he e he))
        rw [dl_len w.len] at h2
        show d.getD e 0 ≤ stop - v
        omega
    have := cnt_nonneg (d := dl d) (es := es) (own := own) (start := start) (stop := stop)
    omega
  · have := cnt_nonneg (d := dl d) (es := es) (own := own) (start := start) (stop := stop)
    omega
/-- the tie of an ending can be added: it is good, and some way keeps it -/
theorem Ask.end_tie {v : Int} {t : Tie} (h : (v, some t) ∈ endings m U es own start stop) : GoodTie m t ∧ ∃ V, tableOf m (ts ++ [t]) = some V := by
  have T := table_some A.good hU
  have ho := A.ho
  have fin : ∀ (t : Tie) (j : Nat), GoodTie m t → t.2.2 ≤ U (nd m t.1) j - U (nd m t.2.1) j → GoodTie m t ∧ ∃ V, tableOf m (ts ++ [t]) = some V := fun t j g k => by
    have g2 : ∀ u ∈ ts ++ [t], GoodTie m u := fun u hu => (List.mem_append.mp hu).elim (A.good u) fun z => by rw [List.mem_singleton.mp z]; exact g
    have p := T.col A.good j
    exact ⟨g, table_pot g2 (w := fun i => U i j) ⟨p.lo, p.hi, fun u hu => (List.mem_append.mp hu).elim (p.tie u) fun z => by rw [List.mem_singleton.mp z]; exact k⟩⟩
  have n0 : ∀ i : Nat, nd m (i : Int) = i := fun i => by
    unfold nd
    rw [if_neg (by omega)]
    rfl
  have n1 : nd m (-1) = m := by
    unfold nd
    rw [if_pos rfl]
  rcases mem_endings.mp h with h | h | ⟨e, he, h | h⟩
  · cases h
  · injection h with h1 h2
    injection h2 with h2
    subst h2
    refine fin _ m ⟨Int.le_refl _, by show (-1 : Int) < m; omega, by show (-1 : Int) ≤ own; omega, by show (own : Int) < m; omega, by show (-1 : Int) ≠ own; omega⟩ ?_
    show -start - (U own m - start) ≤ U (nd m (-1)) m - U (nd m (own : Int)) m
    rw [n0, n1]
    have := T.diag m (Nat.le_refl _)
    omega
  · have h3 := A.he e he
    have h4 : own ≠ e := fun z => A.hn (by rw [z]; exact he)
    injection h with h1 h2
    injection h2 with h2
    subst h2
    refine fin _ e ⟨by show (-1 : Int) ≤ e; omega, by show (e : Int) < m; omega, by show (-1 : Int) ≤ own; omega, by show (own : Int) < m; omega, by show (e : Int) ≠ own; omega⟩ ?_
    show -(U own e) ≤ U (nd m (e : Int)) e - U (nd m (own : Int)) e
    rw [n0, n0]
    have := T.diag e (Nat.le_of_lt h3)
    omega
  · have h3 := A.he e he
    injection h with h1 h2
    injection h2 with h2
    subst h2
    refine fin _ e ⟨by show (-1 : Int) ≤ e; omega, by show (e : Int) < m; omega, Int.le_refl _, by show (-1 : Int) < m; omega, by show (e : Int) ≠ -1; omega⟩ ?_
    show stop - (stop + U m e) ≤ U (nd m (e : Int)) e - U (nd m (-1)) e
    rw [n0, n1]
    have := T.diag e (Nat.le_of_lt h3)
    omega
/-- the fewest days, by the least ending -/
theorem Ask.few {v : Int} {o : Option Tie} (hp : (v, o) ∈ endings m U es own start stop) (hm : ∀ q ∈ endings m U es own start stop, v ≤ q.1) :
    IsFew m ts es own start stop (max 0 v) ∧ (o = none → Way m ts (earlyL m U) ∧ cnt (dl (earlyL m U)) es own start stop = max 0 v) ∧
      ∀ t V, o = some t → tableOf m (ts ++ [t]) = some V → Way m ts (earlyL m V) ∧ cnt (dl (earlyL m V)) es own start stop = max 0 v := by
  have low : ∀ d, Way m ts d → max 0 v ≤ cnt (dl d) es own start stop := fun d w => A.few_le hU hm w
  have T := table_some A.good hU
  have c1 : o = none → Way m ts (earlyL m U) ∧ cnt (dl (earlyL m U)) es own start stop = max 0 v := fun e => by
    have w := T.early A.good
    have h1 := low _ w
    have h2 := cnt_le (d := dl (earlyL m U)) (es := es) (own := own) (Int.le_of_lt A.run)
    have h3 : v = stop - start := by
      subst e
      rcases mem_endings.mp hp with h | h | ⟨e, he, h | h⟩
      · exact (Prod.mk.inj h).1
      · cases (Prod.mk.inj h).2
      · cases (Prod.mk.inj h).2
      · cases (Prod.mk.inj h).2
    have := A.run
    exact ⟨w, by omega⟩
  have c2 : ∀ t V, o = some t → tableOf m (ts ++ [t]) = some V → Way m ts (earlyL m V) ∧ cnt (dl (earlyL m V)) es own start stop = max 0 v := fun t V e hV => by
    subst e
    have g := (A.end_tie hU hp).1
    have g2 : ∀ u ∈ ts ++ [t], GoodTie m u := fun u hu => (List.mem_append.mp hu).elim (A.good u) fun z => by rw [List.mem_singleton.mp z]; exact g
    have w := (table_some g2 hV).early g2
    generalize earlyL m V = d at w
    obtain ⟨w1, w2⟩ := Way.app.mp w
    have w3 := w2 t (List.mem_singleton.mpr rfl)
    have h1 := low _ w1
    refine ⟨w1, Int.le_antisymm ?_ h1⟩
    by_cases k : cnt (dl d) es own start stop ≤ max 0 v
    · exact k
    · exfalso
      have C := (cnt_ge (D := dl d) (es := es) (own := own) (start := start) (stop := stop) (c := cnt (dl d) es own start stop) (by omega)).mp (Int.le_refl _)
      generalize cnt (dl d) es own start stop = c at C k
      rcases mem_endings.mp hp with h | h | ⟨e, he, h | h⟩
      · cases (Prod.mk.inj h).2
      · obtain ⟨e1, e2⟩ := Prod.mk.inj h
        injection e2 with e2
        subst e2
        rw [dayOf_nat, dayOf_beg] at w3
        have w4 : -start - (U own m - start) ≤ 0 - dl d own := w3
        have := C.mine
        omega
      · obtain ⟨e1, e2⟩ := Prod.mk.inj h
        injection e2 with e2
        subst e2
        rw [dayOf_nat, dayOf_nat] at w3
        have w4 : -(U own e) ≤ dl d e - dl d own := w3
        have := C.el e he
        omega
      · obtain ⟨e1, e2⟩ := Prod.mk.inj h
        injection e2 with e2
        subst e2
        rw [dayOf_nat, dayOf_beg] at w3
        have w4 : stop - (stop + U m e) ≤ dl d e - 0 := w3
        have := C.el e he
        omega
  refine ⟨⟨low, ?_⟩, c1, c2⟩
  cases o with
  | none => exact ⟨_, c1 rfl⟩
  | some t =>
    obtain ⟨V, hV⟩ := (A.end_tie hU hp).2
    exact ⟨_, c2 t V rfl hV⟩
end
end Lh
end
section
set_option autoImplicit false
/-! The law's own gaps: rounds of raising, and that they come to the table's differences. -/
namespace Lh
abbrev Edge := Nat × Nat × Int
def relax (far : Nat → Int) (e : Edge) : Nat → Int := fun i => if i = e.1 then max (far e.1) (far e.2.1 + e.2.2) else far i
def round (E : List Edge) (far : Nat → Int) : Nat → Int := E.foldl relax far
def rounds (E : List Edge) (far : Nat → Int) : Nat → Nat → Int
  | 0 => far
  | r + 1 => round E (rounds E far r)
def far0 (o : Nat) : Nat → Int := fun i => if i = o then 0 else -1000000000

theorem relax_ge (far : Nat → Int) (e : Edge) (i : Nat) : far i ≤ relax far e i := by
  unfold relax
  split
  · rename_i h
    subst h
    omega
  · exact Int.le_refl _
theorem round_ge : ∀ (E : List Edge) (far : Nat → Int) (i : Nat), far i ≤ round E far i
  | [], _, _ => Int.le_refl _
  | e :: E, far, i => Int.le_trans (relax_ge far e i) (round_ge E (relax far e) i)
section
variable {m : Nat} {U : Tab} {o : Nat}
def Up (m : Nat) (U : Tab) (o : Nat) (far : Nat → Int) : Prop := ∀ i, i ≤ m → far i ≤ U i o
def EdgeOk (m : Nat) (U : Tab) (e : Edge) : Prop := e.1 ≤ m ∧ e.2.1 ≤ m ∧ e.2.2 ≤ U e.1 e.2.1
theorem relax_up {far : Nat → Int} {e : Edge} (tri : ∀ l, l ≤ m → ∀ i j, U i l + U l j ≤ U i j) (he : EdgeOk m U e) (u : Up m U o far) : Up m U o (relax far e) := fun i hi => by
  obtain ⟨h1, h2, h3⟩ := he
  unfold relax
  split
  · rename_i h
    subst h
    have a1 := u _ h1
    have a2 := u _ h2
    have a3 := tri _ h2 e.1 o
    omega
  · exact u i hi
theorem round_up (tri : ∀ l, l ≤ m → ∀ i j, U i l + U l j ≤ U i j) : ∀ (E : List Edge) (far : Nat → Int), (∀ e ∈ E, EdgeOk m U e) → Up m U o far → Up m U o (round E far)
  | [], _, _, u => u
  | e :: E, far, h, u => round_up tri E (relax far e) (fun x hx => h x (List.mem_cons_of_mem _ hx)) (relax_up tri (h e (List.mem_cons_self ..)) u)
/-- an edge from a settled place settles its end -/
theorem round_set (tri : ∀ l, l ≤ m → ∀ i j, U i l + U l j ≤ U i j) : ∀ (E : List Edge) (far : Nat → Int), (∀ e ∈ E, EdgeOk m U e) → Up m U o far → ∀ e ∈ E, U e.1 o ≤ far e.2.1 + e.2.2 → U e.1 o ≤ round E far e.1
  | [], _, _, _, e, h, _ => by cases h
  | x :: E, far, h, u, e, hm, k => by
    rcases List.mem_cons.mp hm with hm | hm
    · subst hm
      refine Int.le_trans ?_ (round_ge E (relax far e) e.1)
      unfold relax
      rw [if_pos rfl]
      omega
    · refine round_set tri E (relax far x) (fun y hy => h y (List.mem_cons_of_mem _ hy)) (relax_up tri (h x (List.mem_cons_self ..)) u) e hm ?_
      have := relax_ge far x e.2.1
      omega
theorem countP_less {P Q : Nat → Bool} : ∀ (l : List Nat), (∀ i ∈ l, P i = true → Q i = true) → l.countP P ≤ l.countP Q
  | [], _ => Nat.le_refl _
  | x :: l, h => by
    have ih := countP_less l fun i hi => h i (List.mem_cons_of_mem _ hi)
    have hx := h x (List.mem_cons_self ..)
    rw [List.countP_cons, List.countP_cons]
    cases hp : P x with
    | false => simp; omega
    | true => simp [hx hp]; omega
theorem countP_more {P Q : Nat → Bool} : ∀ (l : List Nat), (∀ i ∈ l, P i = true → Q i = true) → (∃ i ∈ l, P i = false ∧ Q i = true) → l.countP P + 1 ≤ l.countP Q
  | [], _, h => by
    obtain ⟨_, h, _⟩ := h
    cases h
  | x :: l, h, k => by
    obtain ⟨i, hi, hp, hq⟩ := k
    rw [List.countP_cons, List.countP_cons]
    rcases List.mem_cons.mp hi with hi | hi
    · subst hi
      have ih := countP_less l fun j hj => h j (List.mem_cons_of_mem _ hj)
      simp [hp, hq]
      omega
    · have ih := countP_more l (fun j hj => h j (List.mem_cons_of_mem _ hj)) ⟨i, hi, hp, hq⟩
      have hx := h x (List.mem_cons_self ..)
      cases hp : P x with
      | false => simp; omega
      | true => simp [hx hp]; omega
def setd (U : Tab) (o : Nat) (far : Nat → Int) : Nat → Bool := fun i => decide (U i o ≤ far i)
def nset (m : Nat) (U : Tab) (o : Nat) (far : Nat → Int) : Nat := (List.range (m + 1)).countP (setd U o far)

/-- one round settles one place more, as long as one is left -/
theorem round_more {E : List Edge} {far : Nat → Int} (ho : o ≤ m) (d : U o o = 0) (tri : ∀ l, l ≤ m → ∀ i j, U i l + U l j ≤ U i j) (hE : ∀ e ∈ E, EdgeOk m U e)
    (hs : ∀ w : Nat → Int, (∀ e ∈ E, e.2.2 ≤ w e.1 - w e.2.1) → ∀ i j, i ≤ m → j ≤ m → U i j ≤ w i - w j) (u : Up m U o far) (h0 : U o o ≤ far o)
    (hi : ∃ i, i ≤ m ∧ far i < U i o) : nset m U o far + 1 ≤ nset m U o (round E far) := by
  refine countP_more _ (fun i _ h => ?_) ?_
  · have h1 : U i o ≤ far i := of_decide_eq_true h
    have := round_ge E far i
    exact decide_eq_true (by omega)
  · by_cases k : ∃ e ∈ E, far e.1 < U e.1 o ∧ U e.2.1 o ≤ far e.2.1 ∧ U e.1 o ≤ U e.2.1 o + e.2.2
    · obtain ⟨e, he, k1, k2, k3⟩ := k
      refine ⟨e.1, List.mem_range.mpr (by have := (hE e he).1; omega), decide_eq_false (by omega), decide_eq_true ?_⟩
      exact round_set tri E far hE u e he (by omega)
    · exfalso
      obtain ⟨i, him, hi⟩ := hi
      have h := hs (fun j => if far j < U j o then U j o - 1 else U j o) (fun e he => ?_) i o him ho
      · have h2 : U i o ≤ (if far i < U i o then U i o - 1 else U i o) - (if far o < U o o then U o o - 1 else U o o) := h
        rw [if_pos hi, if_neg (by omega)] at h2
        omega
      · show e.2.2 ≤ (if far e.1 < U e.1 o then U e.1 o - 1 else U e.1 o) - (if far e.2.1 < U e.2.1 o then U e.2.1 o - 1 else U e.2.1 o)
        have a1 := hE e he
        have a2 := tri _ a1.2.1 e.1 o
        have a3 := a1.2.2
        by_cases b1 : far e.1 < U e.1 o
        · rw [if_pos b1]
          by_cases b2 : far e.2.1 < U e.2.1 o
          · rw [if_pos b2]
            omega
          · rw [if_neg b2]
            have : ¬ U e.1 o ≤ U e.2.1 o + e.2.2 := fun z => k ⟨e, he, b1, by omega, z⟩
            omega
        · rw [if_neg b1]
          split <;> omega
theorem nset_all {far : Nat → Int} (h : m + 1 ≤ nset m U o far) : ∀ i, i ≤ m → U i o ≤ far i := fun i hi => by
  have e : nset m U o far = (List.range (m + 1)).length := by
    have h1 : nset m U o far ≤ (List.range (m + 1)).length := List.countP_le_length
    rw [List.length_range] at h1 ⊢
    omega
  exact of_decide_eq_true (List.countP_eq_length.mp e i (List.mem_range.mpr (by omega)))
theorem nset_some {far : Nat → Int} (ho : o ≤ m) (h : U o o ≤ far o) : 1 ≤ nset m U o far :=
  List.countP_pos_iff.mpr ⟨o, List.mem_range.mpr (by omega), decide_eq_true h⟩
theorem rounds_up {E : List Edge} {far : Nat → Int} (tri : ∀ l, l ≤ m → ∀ i j, U i l + U l j ≤ U i j) (hE : ∀ e ∈ E, EdgeOk m U e) (u : Up m U o far) : ∀ r, Up m U o (rounds E far r)
  | 0 => u
  | r + 1 => round_up tri E _ hE (rounds_up tri hE u r)
theorem rounds_ge (E : List Edge) (far : Nat → Int) (i : Nat) : ∀ r, far i ≤ rounds E far r i
  | 0 => Int.le_refl _
  | r + 1 => Int.le_trans (rounds_ge E far i r) (round_ge E _ i)
theorem rounds_many {E : List Edge} {far : Nat → Int} (ho : o ≤ m) (d : U o o = 0) (tri : ∀ l, l ≤ m → ∀ i j, U i l + U l j ≤ U i j) (hE : ∀ e ∈ E, EdgeOk m U e)
    (hs : ∀ w : Nat → Int, (∀ e ∈ E, e.2.2 ≤ w e.1 - w e.2.1) → ∀ i j, i ≤ m → j ≤ m → U i j ≤ w i - w j) (u : Up m U o far) (h0 : U o o ≤ far o) :
    ∀ r, (∀ i, i ≤ m → U i o ≤ rounds E far r i) ∨ r + 1 ≤ nset m U o (rounds E far r)
  | 0 => .inr (nset_some ho h0)
  | r + 1 => by
    rcases rounds_many ho d tri hE hs u h0 r with h | h
    · exact .inl fun i hi => Int.le_trans (h i hi) (round_ge E _ i)
    · by_cases k : ∃ i, i ≤ m ∧ rounds E far r i < U i o
      · have := round_more ho d tri hE hs (rounds_up tri hE u r) (Int.le_trans h0 (rounds_ge E far o r)) k
        exact .inr (by show r + 1 + 1 ≤ nset m U o (round E (rounds E far r)); omega)
      · refine .inl fun i hi => Int.le_trans ?_ (round_ge E _ i)
        by_cases k2 : rounds E far r i < U i o
        · exact absurd ⟨i, hi, k2⟩ k
        · omega
theorem rounds_eq {E : List Edge} {far : Nat → Int} (ho : o ≤ m) (d : U o o = 0) (tri : ∀ l, l ≤ m → ∀ i j, U i l + U l j ≤ U i j) (hE : ∀ e ∈ E, EdgeOk m U e)
    (hs : ∀ w : Nat → Int, (∀ e ∈ E, e.2.2 ≤ w e.1 - w e.2.1) → ∀ i j, i ≤ m → j ≤ m → U i j ≤ w i - w j) (u : Up m U o far) (h0 : U o o ≤ far o) {r : Nat} (hr : m ≤ r) {i : Nat} (hi : i ≤ m) : rounds E far r i = U i o := by
  have h1 := rounds_up tri hE u r i hi
  rcases rounds_many ho d tri hE hs u h0 r with h | h
  · have := h i hi
    omega
  · have := nset_all (by omega : m + 1 ≤ nset m U o (rounds E far r)) i hi
    omega
end
/-! ### for ties and the bounds -/
def boundT (m : Nat) : List Tie := (List.range m).flatMap fun i : Nat => [((i : Int), -1, 0), (-1, (i : Int), -9999)]
def edgeOf (m : Nat) (t : Tie) : Edge := (nd m t.1, nd m t.2.1, t.2.2)
def gapOf (m : Nat) (ts : List Tie) (o : Nat) : Nat → Int := rounds ((ts ++ boundT m).map (edgeOf m)) (far0 o) (m + 2)
theorem nd_nat (m i : Nat) : nd m (i : Int) = i := by
  unfold nd
  rw [if_neg (by omega)]
  rfl
theorem nd_beg (m : Nat) : nd m (-1) = m := by
  unfold nd
  rw [if_pos rfl]
theorem gap_eq {m : Nat} {ts : List Tie} {U : Tab} (g : ∀ t ∈ ts, GoodTie m t) (h : tableOf m ts = some U) {i o : Nat} (hi : i ≤ m) (ho : o ≤ m) : gapOf m ts o i = U i o := by
  have T := table_some g h
  refine rounds_eq ho (T.diag o ho) T.tri (fun e he => ?_) (fun w hw => ?_) (fun j hj => ?_) ?_ (by omega) hi
  · obtain ⟨t, ht, rfl⟩ := List.mem_map.mp he
    rcases List.mem_append.mp ht with ht | ht
    · exact ⟨nd_le (g t ht).a0 (g t ht).a1, nd_le (g t ht).b0 (g t ht).b1, T.tie t ht⟩
    · obtain ⟨k, hk, ht⟩ := List.mem_flatMap.mp ht
      have hk2 := List.mem_range.mp hk
      rcases List.mem_cons.mp ht with ht | ht
      · subst ht
        show nd m (k : Int) ≤ m ∧ nd m (-1) ≤ m ∧ 0 ≤ U (nd m (k : Int)) (nd m (-1))
        rw [nd_nat, nd_beg]
        exact ⟨by omega, Nat.le_refl _, T.life0 k⟩
      · rw [List.mem_singleton.mp ht]
        show nd m (-1) ≤ m ∧ nd m (k : Int) ≤ m ∧ -9999 ≤ U (nd m (-1)) (nd m (k : Int))
        rw [nd_nat, nd_beg]
        exact ⟨Nat.le_refl _, by omega, T.low m k⟩
  · refine T.sound w ⟨fun j hj => ?_, fun j hj => ?_, fun t ht => hw (edgeOf m t) (List.mem_map.mpr ⟨t, List.mem_append_left _ ht, rfl⟩)⟩
    · by_cases e : j = m
      · subst e; omega
      · have h1 : (0 : Int) ≤ w (nd m (j : Int)) - w (nd m (-1)) := hw (edgeOf m ((j : Int), -1, 0)) (List.mem_map.mpr ⟨_, List.mem_append_right _ (List.mem_flatMap.mpr ⟨j, List.mem_range.mpr (by omega), List.mem_cons_self ..⟩), rfl⟩)
        rw [nd_nat, nd_beg] at h1
        exact h1
    · by_cases e : j = m
      · subst e; omega
      · have h1 : (-9999 : Int) ≤ w (nd m (-1)) - w (nd m (j : Int)) := hw (edgeOf m (-1, (j : Int), -9999)) (List.mem_map.mpr ⟨_, List.mem_append_right _ (List.mem_flatMap.mpr ⟨j, List.mem_range.mpr (by omega), List.mem_cons_of_mem _ (List.mem_cons_self ..)⟩), rfl⟩)
        rw [nd_nat, nd_beg] at h1
        omega
  · unfold far0
    have := T.low j o
    have := T.diag o ho
    split
    · rename_i e
      subst e
      omega
    · omega
  · unfold far0
    rw [if_pos rfl, T.diag o ho]
    exact Int.le_refl _
end Lh
end
namespace Lh
open PySem PySem.Spec PyProof.Rows L2
def top (i : Nat) : Stmt := PySem.Challenge.pw_lifehold_k30_whole_ways_of_fewest_and_mo.main.body.getD i (.Pass ⟨0, 0, 0, 0⟩)
abbrev s_is_day : Stmt := top 12
abbrev s_need_day : Stmt := top 13
abbrev s_need_run : Stmt := top 14
abbrev s_is_tie : Stmt := top 19
abbrev s_need_many : Stmt := top 20
abbrev s_need_tie : Stmt := top 21
abbrev s_need_ties : Stmt := top 22
abbrev s_need_row : Stmt := top 25
abbrev s_need_in : Stmt := top 26
abbrev s_first_table : Stmt := top 28
abbrev s_tightened : Stmt := top 29
abbrev s_table_of : Stmt := top 30
abbrev s_need_table : Stmt := top 31
abbrev s_early_of : Stmt := top 32
abbrev s_late_of : Stmt := top 33
abbrev s_fewest_days : Stmt := top 36
abbrev s_most_days : Stmt := top 37
abbrev s_fewest_way : Stmt := top 38
abbrev s_most_way : Stmt := top 39
abbrev s_law_kept : Stmt := top 41
abbrev s_law_early : Stmt := top 42
abbrev s_law_gap : Stmt := top 43
abbrev s_law_mix : Stmt := top 44
abbrev s_law_raw : Stmt := top 45
abbrev s_law_digits : Stmt := top 46
abbrev s_law_great : Stmt := top 47
abbrev s_law_row : Stmt := top 49
abbrev s_law_run : Stmt := top 50
abbrev s_law_same : Stmt := top 51
abbrev s_law_num : Stmt := top 52
abbrev s_law_turns : Stmt := top 54
abbrev s_law_count : Stmt := top 56
abbrev s_law_good_way : Stmt := top 57
abbrev s_law_more : Stmt := top 58
abbrev s_law_least : Stmt := top 59
abbrev s_law : Stmt := top 60
abbrev s_init : Stmt := inClass (top 35) 0
abbrev s_with_days : Stmt := inClass (top 35) 1
abbrev s_endings : Stmt := inClass (top 35) 2
abbrev s_shortest : Stmt := inClass (top 35) 3
abbrev s_longest : Stmt := inClass (top 35) 4
abbrev p_is_day : List Str := ["day"]
abbrev n_is_day : List Str := ["day"]
theorem sc_is_day : FnScope n_is_day p_is_day (defScope s_is_day) := C8.fnScope_by (by decide +kernel)
abbrev p_need_day : List Str := ["day"]
abbrev n_need_day : List Str := ["day"]
theorem sc_need_day : FnScope n_need_day p_need_day (defScope s_need_day) := C8.fnScope_by (by decide +kernel)
abbrev p_need_run : List Str := ["start", "end"]
abbrev n_need_run : List Str := ["start", "end", "until"]
theorem sc_need_run : FnScope n_need_run p_need_run (defScope s_need_run) := C8.fnScope_by (by decide +kernel)
abbrev p_is_tie : List Str := ["many", "tie"]
abbrev n_is_tie : List Str := ["many", "tie", "one", "other", "least"]
theorem sc_is_tie : FnScope n_is_tie p_is_tie (defScope s_is_tie) := C8.fnScope_by (by decide +kernel)
abbrev p_need_many : List Str := ["many"]
abbrev n_need_many : List Str := ["many"]
theorem sc_need_many : FnScope n_need_many p_need_many (defScope s_need_many) := C8.fnScope_by (by decide +kernel)
abbrev p_need_tie : List Str := ["many", "tie"]
abbrev n_need_tie : List Str := ["many", "tie"]
theorem sc_need_tie : FnScope n_need_tie p_need_tie (defScope s_need_tie) := C8.fnScope_by (by decide +kernel)
abbrev p_need_ties : List Str := ["many", "ties"]
abbrev n_need_ties : List Str := ["many", "ties", "tie"]
theorem sc_need_ties : FnScope n_need_ties p_need_ties (defScope s_need_ties) := C8.fnScope_by (by decide +kernel)
abbrev p_need_row : List Str := ["many", "row"]
abbrev n_need_row : List Str := ["many", "row"]
theorem sc_need_row : FnScope n_need_row p_need_row (defScope s_need_row) := C8.fnScope_by (by decide +kernel)
abbrev p_need_in : List Str := ["row", "life"]
abbrev n_need_in : List Str := ["row", "life"]
theorem sc_need_in : FnScope n_need_in p_need_in (defScope s_need_in) := C8.fnScope_by (by decide +kernel)
abbrev p_first_table : List Str := ["many"]
abbrev n_first_table : List Str := ["many", "size", "table", "one", "other"]
theorem sc_first_table : FnScope n_first_table p_first_table (defScope s_first_table) := C8.fnScope_by (by decide +kernel)
abbrev p_tightened : List Str := ["table"]
abbrev n_tightened : List Str := ["table", "size", "by", "one", "ahead", "other", "point"]
theorem sc_tightened : FnScope n_tightened p_tightened (defScope s_tightened) := C8.fnScope_by (by decide +kernel)
abbrev p_table_of : List Str := ["many", "ties"]
abbrev n_table_of : List Str := ["many", "ties", "table", "one", "other", "least", "here", "there"]
theorem sc_table_of : FnScope n_table_of p_table_of (defScope s_table_of) := C8.fnScope_by (by decide +kernel)
abbrev p_need_table : List Str := ["many", "ties"]
abbrev n_need_table : List Str := ["many", "ties", "table"]
theorem sc_need_table : FnScope n_need_table p_need_table (defScope s_need_table) := C8.fnScope_by (by decide +kernel)
abbrev p_early_of : List Str := ["table"]
abbrev n_early_of : List Str := ["table", "row"]
theorem sc_early_of : FnScope n_early_of p_early_of (defScope s_early_of) := C8.fnScope_by (by decide +kernel)
abbrev p_late_of : List Str := ["table"]
abbrev n_late_of : List Str := ["table", "least"]
theorem sc_late_of : FnScope n_late_of p_late_of (defScope s_late_of) := C8.fnScope_by (by decide +kernel)
abbrev p_fewest_days : List Str := ["many", "ties", "row", "life", "start", "end"]
abbrev n_fewest_days : List Str := ["many", "ties", "row", "life", "start", "end"]
theorem sc_fewest_days : FnScope n_fewest_days p_fewest_days (defScope s_fewest_days) := C8.fnScope_by (by decide +kernel)
abbrev p_most_days : List Str := ["many", "ties", "row", "life", "start", "end"]
abbrev n_most_days : List Str := ["many", "ties", "row", "life", "start", "end"]
theorem sc_most_days : FnScope n_most_days p_most_days (defScope s_most_days) := C8.fnScope_by (by decide +kernel)
abbrev p_fewest_way : List Str := ["many", "ties", "row", "life", "start", "end"]
abbrev n_fewest_way : List Str := ["many", "ties", "row", "life", "start", "end", "asked", "tie"]
theorem sc_fewest_way : FnScope n_fewest_way p_fewest_way (defScope s_fewest_way) := C8.fnScope_by (by decide +kernel)
abbrev p_most_way : List Str := ["many", "ties", "row", "life", "start", "end"]
abbrev n_most_way : List Str := ["many", "ties", "row", "life", "start", "end", "asked", "most"]
theorem sc_most_way : FnScope n_most_way p_most_way (defScope s_most_way) := C8.fnScope_by (by decide +kernel)
abbrev p_law_kept : List Str := ["_law_days", "_law_tie"]
abbrev n_law_kept : List Str := ["_law_days", "_law_tie", "_law_one", "_law_other", "_law_least_here", "_law_here", "_law_there"]
theorem sc_law_kept : FnScope n_law_kept p_law_kept (defScope s_law_kept) := C8.fnScope_by (by decide +kernel)
abbrev p_law_early : List Str := ["_law_many", "_law_ties"]
abbrev n_law_early : List Str := ["_law_many", "_law_ties", "_law_days", "_law_moved", "_law_turn", "_law_one", "_law_other", "_law_least_here", "_law_there", "_law_tie"]
theorem sc_law_early : FnScope n_law_early p_law_early (defScope s_law_early) := C8.fnScope_by (by decide +kernel)
abbrev p_law_gap : List Str := ["_law_many", "_law_ties", "_law_one", "_law_other"]
abbrev n_law_gap : List Str := ["_law_many", "_law_ties", "_law_one", "_law_other", "_law_steps", "_law_life", "_law_far", "_law_turn", "_law_here", "_law_there", "_law_least_here"]
theorem sc_law_gap : FnScope n_law_gap p_law_gap (defScope s_law_gap) := C8.fnScope_by (by decide +kernel)
abbrev p_law_mix : List Str := ["_law_seed"]
abbrev n_law_mix : List Str := ["_law_seed", "_law_one", "_law_two"]
theorem sc_law_mix : FnScope n_law_mix p_law_mix (defScope s_law_mix) := C8.fnScope_by (by decide +kernel)
abbrev p_law_raw : List Str := ["_law_script", "_law_k"]
abbrev n_law_raw : List Str := ["_law_script", "_law_k", "_law_cell", "_law_found", "_law_turn"]
theorem sc_law_raw : FnScope n_law_raw p_law_raw (defScope s_law_raw) := C8.fnScope_by (by decide +kernel)
abbrev p_law_digits : List Str := ["_law_script", "_law_k", "_law_sizes"]
abbrev n_law_digits : List Str := ["_law_script", "_law_k", "_law_sizes", "_law_rest", "_law_found", "_law_size"]
theorem sc_law_digits : FnScope n_law_digits p_law_digits (defScope s_law_digits) := C8.fnScope_by (by decide +kernel)
abbrev p_law_great : List Str := ["_law_script", "_law_k", "_law_most"]
abbrev n_law_great : List Str := ["_law_script", "_law_k", "_law_most", "_law_many", "_law_count_here", "_law_near", "_law_bad", "_law_days", "_law_ties", "_law_turn", "_law_one", "_law_by", "_law_slack", "_law_kind", "_law_other", "_law_here", "_law_there", "_law_day"]
theorem sc_law_great : FnScope n_law_great p_law_great (defScope s_law_great) := C8.fnScope_by (by decide +kernel)
abbrev p_law_row : List Str := ["_law_script", "_law_k", "_law_many"]
abbrev n_law_row : List Str := ["_law_script", "_law_k", "_law_many", "_law_places", "_law_left", "_law_found", "_law_place"]
theorem sc_law_row : FnScope n_law_row p_law_row (defScope s_law_row) := C8.fnScope_by (by decide +kernel)
abbrev p_law_run : List Str := ["_law_script", "_law_k", "_law_days"]
abbrev n_law_run : List Str := ["_law_script", "_law_k", "_law_days", "_law_near", "_law_at", "_law_shift", "_law_wide", "_law_way", "_law_begin", "_law_stop"]
theorem sc_law_run : FnScope n_law_run p_law_run (defScope s_law_run) := C8.fnScope_by (by decide +kernel)
abbrev p_law_same : List Str := ["_law_told", "_law_due"]
abbrev n_law_same : List Str := ["_law_told", "_law_due"]
theorem sc_law_same : FnScope n_law_same p_law_same (defScope s_law_same) := C8.fnScope_by (by decide +kernel)
abbrev p_law_num : List Str := ["_law_told"]
abbrev n_law_num : List Str := ["_law_told"]
theorem sc_law_num : FnScope n_law_num p_law_num (defScope s_law_num) := C8.fnScope_by (by decide +kernel)
abbrev p_law_turns : List Str := ["_law_row_here", "_law_days", "_law_begin", "_law_stop"]
abbrev n_law_turns : List Str := ["_law_row_here", "_law_days", "_law_begin", "_law_stop", "_law_until", "_law_found", "_law_here", "_law_life", "_law_last"]
theorem sc_law_turns : FnScope n_law_turns p_law_turns (defScope s_law_turns) := C8.fnScope_by (by decide +kernel)
abbrev p_law_count : List Str := ["_law_row_here", "_law_days", "_law_life", "_law_begin", "_law_stop"]
abbrev n_law_count : List Str := ["_law_row_here", "_law_days", "_law_life", "_law_begin", "_law_stop", "_law_own", "_law_first", "_law_last"]
theorem sc_law_count : FnScope n_law_count p_law_count (defScope s_law_count) := C8.fnScope_by (by decide +kernel)
abbrev p_law_good_way : List Str := ["_law_told", "_law_many", "_law_ties"]
abbrev n_law_good_way : List Str := ["_law_told", "_law_many", "_law_ties", "_law_day", "_law_tie"]
theorem sc_law_good_way : FnScope n_law_good_way p_law_good_way (defScope s_law_good_way) := C8.fnScope_by (by decide +kernel)
abbrev p_law_more : List Str := ["_law_many", "_law_ties", "_law_row_here", "_law_life", "_law_begin", "_law_until", "_law_count_here"]
abbrev n_law_more : List Str := ["_law_many", "_law_ties", "_law_row_here", "_law_life", "_law_begin", "_law_until", "_law_count_here", "_law_more_here", "_law_elder"]
theorem sc_law_more : FnScope n_law_more p_law_more (defScope s_law_more) := C8.fnScope_by (by decide +kernel)
abbrev p_law_least : List Str := ["_law_many", "_law_ties", "_law_row_here", "_law_life", "_law_begin", "_law_until"]
abbrev n_law_least : List Str := ["_law_many", "_law_ties", "_law_row_here", "_law_life", "_law_begin", "_law_until", "_law_found", "_law_elder"]
theorem sc_law_least : FnScope n_law_least p_law_least (defScope s_law_least) := C8.fnScope_by (by decide +kernel)
abbrev p_law : List Str := ["_law_script"]
abbrev n_law : List Str := ["_law_script", "_law_k", "_law_many", "_law_ties", "_law_days", "_law_bad", "_law_row_here", "_law_begin", "_law_stop", "_law_until", "_law_life", "_law_few", "_law_most", "_law_least_here", "_law_again", "_law_low", "_law_high"]
theorem sc_law : FnScope n_law p_law (defScope s_law) := C8.fnScope_by (by decide +kernel)
abbrev p_init : List Str := ["self", "many", "ties", "row", "own", "run"]
abbrev n_init : List Str := ["self", "many", "ties", "row", "own", "run", "end"]
theorem sc_init : FnScope n_init p_init (defScope s_init) := C8.fnScope_by (by decide +kernel)
abbrev p_with_days : List Str := ["self", "wished"]
abbrev n_with_days : List Str := ["self", "wished", "more", "elder"]
theorem sc_with_days : FnScope n_with_days p_with_days (defScope s_with_days) := C8.fnScope_by (by decide +kernel)
abbrev p_endings : List Str := ["self"]
abbrev n_endings : List Str := ["self", "least", "found", "elder"]
theorem sc_endings : FnScope n_endings p_endings (defScope s_endings) := C8.fnScope_by (by decide +kernel)
abbrev p_shortest : List Str := ["self"]
abbrev n_shortest : List Str := ["self"]
theorem sc_shortest : FnScope n_shortest p_shortest (defScope s_shortest) := C8.fnScope_by (by decide +kernel)
abbrev p_longest : List Str := ["self"]
abbrev n_longest : List Str := ["self", "low", "high", "middle"]
theorem sc_longest : FnScope n_longest p_longest (defScope s_longest) := C8.fnScope_by (by decide +kernel)
end Lh
namespace Lh
open PySem PySem.Spec PyProof.Rows L2

/-! ### o.f as a target among others -/
def gFld (K : PySem.W.Frag) (ta : TE) (f : Str) : TG := fun y σ H Q => ta σ H fun x H2 => ∃ a C dx fs, x = .ref a ∧ H2 a = some (.ins C dx fs) ∧ Cls K C ∧ NoAttr K C f ∧ fs.length < 1000 ∧ Q σ (upd H2 a (.ins C dx (putF f y fs)))
theorem pg_fld {X : Cx} {o : Expr} {f : Str} {pos : Pos} {ta : TE} (ha : PE X o ta)
    (he : ∀ v, assign (.Attribute o f pos) X.env v = (do
      let ov ← holding [v] (eval o X.env)
      standAt pos.atName
      holding [v, ov] (setAttr ov f v)
      release [v, ov] []) := by intro _; rfl) : PG X (.Attribute o f pos) (gFld X.K ta f) := by
  refine ⟨fun pins s σ H v u Q I r h => ?_⟩
  rw [he]
  refine wpAny_bind (wpAny_holding (thn (ha.run pins s σ H _ I h) fun ov s1 ⟨x, H1, I1, r1, a, C, dx, fs, ex, ea, c, n, l, q⟩ => ?_))
  subst ex
  obtain rfl : ov = Value.ref a := r1
  refine wpAny_bind (wpAny_standAt ?_)
  refine wpAny_bind (wpAny_holding (setattr_ok I1 ea c n l r fun s3 I3 => ?_))
  exact wpAny_release ⟨σ, _, I3, q⟩

/-! ### defs of the text, packed -/
/-- the def st stands under the name x, its parameters are ps, every one is given -/
structure Has (K : PySem.W.Frag) (mg : Str → Option Value) (x : Str) (st : Stmt) (ps : List Str) : Prop where
  ex : ∃ (dvs : List V) (f : Addr) (fd : FuncData), FunD K x x (defArgs st) (defBody st) (defScope st) dvs [] f fd ∧ mg x = some (.ref f) ∧ Binds K fd ps []
structure HasM (K : PySem.W.Frag) (C : Addr) (m qual : Str) (st : Stmt) (ps : List Str) : Prop where
  ex : ∃ (f : Addr) (fd : FuncData), FunD K m qual (defArgs st) (defBody st) (defScope st) [] [] f fd ∧ Cls K C ∧ Meth K C m f ∧ Binds K fd ps []
structure HasI (K : PySem.W.Frag) (mg : Str → Option Value) (x : Str) (C : Addr) (qual : Str) (st : Stmt) (ps : List Str) : Prop where
  ex : ∃ (f : Addr) (fd : FuncData), FunD K "__init__" qual (defArgs st) (defBody st) (defScope st) [] [] f fd ∧ mg x = some (.ref C) ∧ Mk K C f ∧ Binds K fd ps []
section
variable {P : Program} {w : World} {K : PySem.W.Frag} {mg : Str → Option Value} {base : Heap}
/-- a def's body, walked: from the promise to its reading -/
abbrev Body (P : Program) (w : World) (K : PySem.W.Frag) (mg : Str → Option Value) (base : Heap) (k : Nat) (qual : Str) (st : Stmt) (N : List Str) (sp : Sp) : Prop :=
  ∀ (f : Addr) (cdv : Value) (A : Around) (outer : List Env) (s : Shared) (H : Hp) (vs : List V) (Q : VK) (E : XK), Room k (A.deeper (envOfC qual (defScope st) s.heap.objs.size f cdv)) → sp vs H Q E →
    ∃ t, PSs (cxOf C8.CX0 P w K mg base N qual (defScope st) f cdv A outer s H E).nox (defBody st) t ∧ t { nx := fun _ H' => Q .non H', rt := Q } (L2.start N vs) H
theorem Has.fn {x : Str} {st : Stmt} {N ps : List Str} {k : Nat} {sp : Sp} (D : Has K mg x st ps) (S : FnScope N ps (defScope st)) (len : ∀ vs H Q E, sp vs H Q E → vs.length = ps.length)
    (hb : Body P w K mg base k x st N sp) : ∃ (dvs : List V) (f : Addr) (fd : FuncData), FunD K x x (defArgs st) (defBody st) (defScope st) dvs [] f fd ∧ mg x = some (.ref f) ∧ Binds K fd ps [] ∧ FnOk P w K mg base C8.CX0 (k + 1) f fd ps sp := by
  obtain ⟨dvs, f, fd, F, hm, b⟩ := D.ex
  refine ⟨dvs, f, fd, F, hm, b, F.ok S len fun cdv A outer s H vs Q E hr hsp => ?_⟩
  obtain ⟨t, h, q⟩ := hb f cdv A outer s H vs Q E hr hsp
  exact ⟨t, h.nox, q⟩
theorem Has.cal {x : Str} {st : Stmt} {N ps : List Str} {k : Nat} {sp : Sp} (D : Has K mg x st ps) (S : FnScope N ps (defScope st)) (len : ∀ vs H Q E, sp vs H Q E → vs.length = ps.length)
    (hb : Body P w K mg base k x st N sp) : C8.Cal P w K mg base (k + 1) x sp [] := by
  obtain ⟨dvs, f, fd, F, hm, b, o⟩ := D.fn S len hb
  exact ⟨f, fd, ps, [], o, hm, F.kp, b, .nil⟩
theorem HasM.met {m qual : Str} {C : Addr} {st : Stmt} {N ps : List Str} {k : Nat} {sp : Sp} (D : HasM K C m qual st ps) (S : FnScope N ps (defScope st)) (len : ∀ vs H Q E, sp vs H Q E → vs.length = ps.length)
    (hb : Body P w K mg base k qual st N sp) : C8.Met P w K mg base (k + 1) C m sp [] := by
  obtain ⟨f, fd, F, c, me, b⟩ := D.ex
  refine ⟨f, fd, ps, [], c, me, F.ok S len fun cdv A outer s H vs Q E hr hsp => ?_, b, .nil⟩
  obtain ⟨t, h, q⟩ := hb f cdv A outer s H vs Q E hr hsp
  exact ⟨t, h.nox, q⟩
theorem HasI.mak {x qual : Str} {C : Addr} {st : Stmt} {N ps : List Str} {k : Nat} {sp : Sp} (D : HasI K mg x C qual st ps) (S : FnScope N ps (defScope st)) (len : ∀ vs H Q E, sp vs H Q E → vs.length = ps.length)
    (hb : Body P w K mg base k qual st N sp) : C8.Mak P w K mg base (k + 1) x C sp [] := by
  obtain ⟨f, fd, F, hm, M, b⟩ := D.ex
  refine ⟨f, fd, ps, [], M, F.ok S len fun cdv A outer s H vs Q E hr hsp => ?_, hm, b, .nil⟩
  obtain ⟨t, h, q⟩ := hb f cdv A outer s H vs Q E hr hsp
  exact ⟨t, h.nox, q⟩
end

/-! ### what the top's names hold -/
structure Gs (mg : Str → Option Value) : Prop where
  len : mg "len" = none
  range : mg "range" = none
  min : mg "min" = none
  max : mg "max" = none
  any : mg "any" = none
  all : mg "all" = none
  sum : mg "sum" = none
  set : mg "set" = none
  list : mg "list" = none
  tuple : mg "tuple" = none
  bool : mg "bool" = none
  int : mg "int" = none
  str : mg "str" = none
  isin : mg "isinstance" = none
  lastDay : ∃ t, mg "LAST_DAY" = some (.int 9999 t)
  endOf : ∃ t, mg "END_OF_DAYS" = some (.int 10000 t)
  beg : ∃ t, mg "BEGINNING" = some (.int (-1) t)
  mostL : ∃ t, mg "MOST_LIVES" = some (.int 10 t)
  mostT : ∃ t, mg "MOST_TIES" = some (.int 80 t)
  mostR : ∃ t, mg "MOST_IN_ROW" = some (.int 4 t)
theorem pe_gi {X : Cx} {x : Str} {pos : Pos} {i : Int} (h : ∃ t, X.mg x = some (.int i t)) (hg : Gl X x := by rfl) (hd : (x == ("__debug__" : Str)) = false := by decide) : PE X (.Name x pos) (tC (.int i)) := by
  obtain ⟨t, h⟩ := h
  exact pe_glob hg h ⟨t, rfl⟩ hd
end Lh
namespace Lh
open PySem PySem.Spec PyProof.Rows L2
theorem ifT {c : Bool} {A B : Prop} (h : c = true) (a : A) : if c = true then A else B := by
  subst h
  exact a
theorem ifF {c : Bool} {A B : Prop} (h : c = false) (b : B) : if c = true then A else B := by
  subst h
  exact b
theorem q_bl {Q : VK} {b c : Bool} {H : Hp} (e : b = c) (q : Q (.bl c) H) : Q (.bl b) H := by
  subst e
  exact q
theorem q_int {Q : VK} {b c : Int} {H : Hp} (e : b = c) (q : Q (.int c) H) : Q (.int b) H := by
  subst e
  exact q
section
variable {P : Program} {w : World} {K : PySem.W.Frag} {mg : Str → Option Value} {base : Heap}
/-! ### is_day, need_day, need_run -/
def sp_is_day : Sp := fun vs H Q _ => ∃ d : Int, vs = [.int d] ∧ 0 ≤ d ∧ d ≤ 9999 ∧ Q (.bl true) H
theorem b_is_day (G : Gs mg) (k : Nat) : Body P w K mg base k "is_day" s_is_day n_is_day sp_is_day := by
  rintro f cdv A outer s H vs Q E hr ⟨d, rfl, h0, h1, q⟩
  refine ⟨_, pss_one (ps_ret (pe_chain op_le op_le pe_int (pv 0) (pe_gi G.lastDay))), ?_⟩
  exact ⟨_, rfl, _, _, rfl, rfl, _, rfl, ifT (decide_eq_true h0) ⟨_, _, rfl, rfl, q_bl (decide_eq_true h1) q⟩⟩
def sp_need_day : Sp := fun vs H Q _ => ∃ d : Int, vs = [.int d] ∧ 0 ≤ d ∧ d ≤ 9999 ∧ Q .non H
theorem b_need_day {k : Nat} (C : C8.Cal P w K mg base k "is_day" sp_is_day []) {j : Nat} (hk : k ≤ j) : Body P w K mg base j "need_day" s_need_day n_need_day sp_need_day := by
  rintro f cdv A outer s H vs Q E hr ⟨d, rfl, h0, h1, q⟩
  refine ⟨_, pss_one (ps_if (pt_not (pt_val (C8.pe_c C hr hk rfl (pa_cons (pv 0) pa_nil)))) pss_never pss_nil), ?_⟩
  exact ⟨_, rfl, d, rfl, h0, h1, _, rfl, ifF rfl q⟩
/-- a run of days: a start, an end or None -/
def optV : Option Int → V
  | none => .non
  | some i => .int i
def untilOf : Option Int → Int
  | none => 10000
  | some i => i
structure Run (b : Int) (e : Option Int) : Prop where
  b0 : 0 ≤ b
  b1 : b ≤ 9999
  lt : b < untilOf e
  le : untilOf e ≤ 10000
def sp_need_run : Sp := fun vs H Q _ => ∃ (b : Int) (e : Option Int), vs = [.int b, optV e] ∧ Run b e ∧ Q (.int (untilOf e)) H
theorem b_need_run (G : Gs mg) {k : Nat} (C : C8.Cal P w K mg base k "need_day" sp_need_day []) {j : Nat} (hk : k ≤ j) : Body P w K mg base j "need_run" s_need_run n_need_run sp_need_run := by
  rintro f cdv A outer s H vs Q E hr ⟨b, e, rfl, R, q⟩
  refine ⟨_, pss_cons (ps_expr (C8.pe_c C hr hk rfl (pa_cons (pv 0) pa_nil))) (pss_cons (ps_set (i := 2) sc_need_run.nd rfl (.inl rfl) (pe_ifExp (pt_cmpR op_isN (pv 1) pe_non (nomark _)) (pe_gi G.endOf) (pv 1)))
    (pss_cons (ps_if (PW.pt (pw_or (pt_cmpR op_le (pv 2) (pv 0) (nomark _)) (pw_or1 (pt_cmpR op_gt (pv 2) (pe_gi G.endOf) (nomark _))))) pss_never pss_nil) (pss_one (ps_ret (pv 2))))), ?_⟩
  refine ⟨_, rfl, b, rfl, R.b0, R.b1, ?_⟩
  have h1 := R.lt
  have h2 := R.le
  have fin : ∀ σ' : L2.St, σ' = [some (.int b), some (optV e), some (.int (untilOf e))] → tSeq (tIfS (tOr (tTest (tOp (rI0 fun i j => .bl (decide (i ≤ j))) (tVar 2) (tVar 0))) (tTest (tOp (rI0 fun i j => .bl (decide (j < i))) (tVar 2) (tC (.int 10000))))) tNever tNext) (tRet (tVar 2)) { nx := fun _ H' => Q .non H', rt := Q } σ' H := by
    rintro _ rfl
    exact ⟨_, rfl, _, rfl, _, _, rfl, rfl, _, rfl, ifF (decide_eq_false (by omega)) ⟨_, rfl, _, _, rfl, rfl, _, rfl, ifF (decide_eq_false (by omega)) ⟨_, rfl, q⟩⟩⟩
  cases e with
  | none => exact ⟨_, rfl, rfl, _, rfl, ifT rfl (fin _ rfl)⟩
  | some i => exact ⟨_, rfl, rfl, _, rfl, ifF rfl ⟨_, rfl, fin _ rfl⟩⟩
end
end Lh
namespace Lh
open PySem PySem.Spec PyProof.Rows L2
/-! ### data in the heap -/
abbrev Ex := Evl.Ex
/-- all but the code tables stands as before -/
abbrev Kp := LamX.ExtN
theorem Kp.of {H H' : Hp} (e : Ex H H') : Kp H H' := fun b o h _ => e b o h
theorem Kp.rd {H H' : Hp} (e : Kp H H') {a : Addr} {u : HO} (h : Rd H a u) (n : ∀ ps, u ≠ .tbl ps) : Rd H' a u := by
  rcases h with h | ⟨o, h⟩
  · exact .inl (e a _ h n)
  · exact .inr ⟨o, e a _ h fun ps z => by cases z⟩
theorem Kp.l {K : PySem.W.Frag} {H H' : Hp} (e : Kp H H') {a : Addr} {xs : List V} (h : SqL K H a xs) : SqL K H' a xs := by
  rcases h with h | h
  · exact .inl (e.rd h fun ps z => by cases z)
  · exact .inr h
theorem Kp.t {K : PySem.W.Frag} {H H' : Hp} (e : Kp H H') {a : Addr} {xs : List V} (h : SqT K H a xs) : SqT K H' a xs := by
  rcases h with h | h
  · exact .inl (e.rd h fun ps z => by cases z)
  · exact .inr h
theorem Kp.free {H H' : Hp} (e : Kp H H') {p : Addr} (h : H' p = none) (n : ∀ ps, H p ≠ some (.tbl ps)) : H p = none := by
  cases q : H p with
  | none => rfl
  | some o =>
    rw [e p o q fun ps z => n ps (by rw [q, z])] at h
    cases h
theorem paired_at {α β : Type} {F : α → β → Prop} : ∀ {l₁ : List α} {l₂ : List β} {i : Nat} {x : α}, Paired F l₁ l₂ → l₁[i]? = some x → ∃ y, l₂[i]? = some y ∧ F x y
  | _, _, _, _, .nil, h => by simp at h
  | _, _, 0, x, .cons r _, h => by
    have e := Option.some.inj h
    subst e
    exact ⟨_, rfl, r⟩
  | _, _, i + 1, x, .cons _ t, h => paired_at (i := i) t h
theorem paired_app {α β : Type} {F : α → β → Prop} : ∀ {l₁ : List α} {l₂ : List β} {m₁ : List α} {m₂ : List β}, Paired F l₁ l₂ → Paired F m₁ m₂ → Paired F (l₁ ++ m₁) (l₂ ++ m₂)
  | _, _, _, _, .nil, h => h
  | _, _, _, _, .cons r t, h => .cons r (paired_app t h)
section
variable {K : PySem.W.Frag} {H H' : Hp}
def IsTie (K : PySem.W.Frag) (H : Hp) (v : V) (t : Tie) : Prop := ∃ p, v = .ref p ∧ SqT K H p [.int t.1, .int t.2.1, .int t.2.2]
theorem IsTie.kp (e : Kp H H') {v : V} {t : Tie} (h : IsTie K H v t) : IsTie K H' v t := by
  obtain ⟨p, e1, h⟩ := h
  exact ⟨p, e1, e.t h⟩
theorem IsTie.of {p : Addr} {a b c : Int} (h : H p = some (.tup [.int a, .int b, .int c])) : IsTie K H (.ref p) (a, b, c) := ⟨p, rfl, .inl (.inl h)⟩
def TiesV (K : PySem.W.Frag) (H : Hp) (vs : List V) (ts : List Tie) : Prop := Paired (IsTie K H) vs ts
theorem TiesV.kp (e : Kp H H') {vs : List V} {ts : List Tie} (h : TiesV K H vs ts) : TiesV K H' vs ts := Paired.mono (fun _ _ z => IsTie.kp e z) h
def IsTies (K : PySem.W.Frag) (H : Hp) (a : Addr) (ts : List Tie) : Prop := ∃ vs, SqL K H a vs ∧ TiesV K H vs ts
theorem IsTies.kp (e : Kp H H') {a : Addr} {ts : List Tie} (h : IsTies K H a ts) : IsTies K H' a ts := by
  obtain ⟨vs, h1, h2⟩ := h
  exact ⟨vs, e.l h1, h2.kp e⟩
structure OkTie (m : Nat) (t : Tie) : Prop where
  g : GoodTie m t
  lo : -9999 ≤ t.2.2
  hi : t.2.2 ≤ 9999
/-- a list of lives -/
def natV (l : List Nat) : List V := (l.map fun i : Nat => (i : Int)).map V.int
def IsNats (K : PySem.W.Frag) (H : Hp) (a : Addr) (l : List Nat) : Prop := SqL K H a (natV l)
def IsInts (K : PySem.W.Frag) (H : Hp) (a : Addr) (l : List Int) : Prop := SqL K H a (l.map V.int)
theorem natV_len (l : List Nat) : (natV l).length = l.length := by
  unfold natV
  rw [List.length_map, List.length_map]
theorem natV_get {l : List Nat} {i : Nat} {x : V} (h : (natV l)[i]? = some x) : ∃ j, l[i]? = some j ∧ x = .int (j : Int) := by
  unfold natV at h
  rw [List.getElem?_map, List.getElem?_map] at h
  cases e : l[i]? with
  | none =>
    rw [e] at h
    cases h
  | some j =>
    rw [e] at h
    exact ⟨j, rfl, (Option.some.inj h).symm⟩
theorem natV_at {l : List Nat} {i j : Nat} (h : l[i]? = some j) : (natV l)[i]? = some (.int (j : Int)) := by
  unfold natV
  rw [List.getElem?_map, List.getElem?_map, h]
  rfl
theorem natV_app (a b : List Nat) : natV (a ++ b) = natV a ++ natV b := by
  unfold natV
  rw [List.map_append, List.map_append]
theorem natV_flat (l : List Nat) : (natV l).all flatV = true := by
  unfold natV
  rw [List.all_eq_true]
  intro x hx
  obtain ⟨i, _, rfl⟩ := List.mem_map.mp hx
  rfl
theorem eqV_int (i j : Int) : eqV (.int i) (.int j) = decide (i = j) := by
  first | rfl | (unfold eqV; rfl) | simp [eqV]
theorem natV_in {l : List Nat} {x : Nat} (h : x ∈ l) : inV (.int (x : Int)) (natV l) = true := by
  unfold inV natV
  rw [List.any_eq_true]
  exact ⟨.int (x : Int), List.mem_map.mpr ⟨(x : Int), List.mem_map.mpr ⟨x, h, rfl⟩, rfl⟩, by rw [eqV_int]; exact decide_eq_true rfl⟩
theorem ints_get {l : List Int} {i : Nat} {x : V} (h : (l.map V.int)[i]? = some x) : ∃ j, l[i]? = some j ∧ x = .int j := by
  rw [List.getElem?_map] at h
  cases e : l[i]? with
  | none =>
    rw [e] at h
    cases h
  | some j =>
    rw [e] at h
    exact ⟨j, rfl, (Option.some.inj h).symm⟩
theorem ints_at {l : List Int} {i : Nat} {j : Int} (h : l[i]? = some j) : (l.map V.int)[i]? = some (.int j) := by
  rw [List.getElem?_map, h]
  rfl
end
end Lh
namespace Lh
open PySem PySem.Spec PyProof.Rows L2
section
variable {P : Program} {w : World} {K : PySem.W.Frag} {mg : Str → Option Value} {base : Heap}
/-! ### ties and rows looked at -/
def sp_is_tie (K : PySem.W.Frag) : Sp := fun vs H Q _ => ∃ (m : Nat) (v : V) (t : Tie), vs = [.int (m : Int), v] ∧ IsTie K H v t ∧ OkTie m t ∧ Q (.bl true) H
theorem b_is_tie (G : Gs mg) (k : Nat) : Body P w K mg base k "is_tie" s_is_tie n_is_tie (sp_is_tie K) := by
  rintro f cdv A outer s H vs Q E hr ⟨m, v, t, rfl, ⟨p, rfl, hp⟩, O, q⟩
  have nd := sc_is_tie.nd
  refine ⟨_, pss_cons (ps_asg (pv 1) (pg_tup rfl (pgs_cons (pg_name (i := 2) nd rfl (.inl rfl)) (pgs_cons (pg_name (i := 3) nd rfl (.inl rfl)) (pgs_cons (pg_name (i := 4) nd rfl (.inl rfl)) pgs_nil)))))
    (pss_cons (ps_if (PW.pt (pw_or (pt_cmpR op_lt (pe_callB (call_min2 rfl) rfl G.min PyProof.Rows.boot_min (pa_cons (pv 2) (pa_cons (pv 3) pa_nil))) (pe_gi G.beg) (nomark _))
      (pw_or (pt_cmpR op_ge (pe_callB (call_max2 rfl) rfl G.max PyProof.Rows.boot_max (pa_cons (pv 2) (pa_cons (pv 3) pa_nil))) (pv 0) (nomark _))
      (pw_or1 (pt_cmpR op_eq (pv 2) (pv 3) (nomark _)))))) pss_never pss_nil)
    (pss_one (ps_ret (pe_chain op_le op_le (pe_un un_neg (pe_gi G.lastDay)) (pv 4) (pe_gi G.lastDay))))), ?_⟩
  have a0 := O.g.a0; have a1 := O.g.a1; have b0 := O.g.b0; have b1 := O.g.b1; have ne := O.g.ne; have lo := O.lo; have hi := O.hi
  refine ⟨_, rfl, p, _, rfl, hp, rfl, _, _, rfl, _, _, rfl, _, _, rfl, rfl, ?_⟩
  refine ⟨_, rfl, _, rfl, _, _, rfl, _, _, rfl, rfl, _, rfl, ifF (decide_eq_false (by split <;> omega)) ?_⟩
  refine ⟨_, rfl, _, rfl, _, _, rfl, _, rfl, _, _, rfl, rfl, _, rfl, ifF (decide_eq_false (by split <;> omega)) ?_⟩
  refine ⟨_, rfl, _, rfl, rfl, _, rfl, ifF (decide_eq_false (fun z => ne (V.int.inj z))) ?_⟩
  refine ⟨_, rfl, _, rfl, _, _, rfl, rfl, _, rfl, ifT (decide_eq_true (by omega)) ⟨_, _, rfl, rfl, q_bl (decide_eq_true (by omega)) q⟩⟩
def sp_need_many : Sp := fun vs H Q _ => ∃ m : Nat, vs = [.int (m : Int)] ∧ 1 ≤ m ∧ m ≤ 10 ∧ Q .non H
theorem b_need_many (G : Gs mg) (k : Nat) : Body P w K mg base k "need_many" s_need_many n_need_many sp_need_many := by
  rintro f cdv A outer s H vs Q E hr ⟨m, rfl, h0, h1, q⟩
  refine ⟨_, pss_one (ps_if (PW.pt (pw_or (pt_cmpR op_lt (pv 0) pe_int (nomark _)) (pw_or1 (pt_cmpR op_gt (pv 0) (pe_gi G.mostL) (nomark _))))) pss_never pss_nil), ?_⟩
  exact ⟨_, rfl, _, _, rfl, rfl, _, rfl, ifF (decide_eq_false (by omega)) ⟨_, rfl, _, _, rfl, rfl, _, rfl, ifF (decide_eq_false (by omega)) q⟩⟩
def sp_need_tie (K : PySem.W.Frag) : Sp := fun vs H Q _ => ∃ (m : Nat) (v : V) (t : Tie), vs = [.int (m : Int), v] ∧ IsTie K H v t ∧ OkTie m t ∧ Q .non H
theorem b_need_tie {k : Nat} (C : C8.Cal P w K mg base k "is_tie" (sp_is_tie K) []) {j : Nat} (hk : k ≤ j) : Body P w K mg base j "need_tie" s_need_tie n_need_tie (sp_need_tie K) := by
  rintro f cdv A outer s H vs Q E hr ⟨m, v, t, rfl, h, O, q⟩
  refine ⟨_, pss_one (ps_if (pt_not (pt_val (C8.pe_c C hr hk rfl (pa_cons (pv 0) (pa_cons (pv 1) pa_nil))))) pss_never pss_nil), ?_⟩
  exact ⟨_, rfl, _, rfl, m, v, t, rfl, h, O, _, rfl, ifF rfl q⟩
def sp_need_ties (K : PySem.W.Frag) : Sp := fun vs H Q _ => ∃ (m : Nat) (a : Addr) (ts : List Tie), vs = [.int (m : Int), .ref a] ∧ 1 ≤ m ∧ m ≤ 10 ∧ ts.length ≤ 80 ∧ IsTies K H a ts ∧ (∀ t ∈ ts, OkTie m t) ∧ Q .non H
theorem b_need_ties (G : Gs mg) {k : Nat} (C : C8.Cal P w K mg base k "need_many" sp_need_many []) (C2 : C8.Cal P w K mg base k "need_tie" (sp_need_tie K) []) {j : Nat} (hk : k ≤ j) : Body P w K mg base j "need_ties" s_need_ties n_need_ties (sp_need_ties K) := by
  rintro f cdv A outer s H vs Q E hr ⟨m, a, ts, rfl, m0, m1, hl, ⟨us, h1, h2⟩, O, q⟩
  refine ⟨_, pss_cons (ps_expr (C8.pe_c C hr hk rfl (pa_cons (pv 0) pa_nil)))
    (pss_cons (ps_if (pt_cmpR op_gt (pe_callB call_len_seq rfl G.len PySem.boot_len (pa_cons (pv 1) pa_nil)) (pe_gi G.mostT) (nomark _)) pss_never pss_nil)
    (pss_one (ps_for PassesOwn.never rfl (pi_list (pv 1)) (pg_name (i := 2) sc_need_ties.nd rfl (.inl rfl)) (pss_one (ps_expr (C8.pe_c C2 hr hk rfl (pa_cons (pv 0) (pa_cons (pv 2) pa_nil)))))))), ?_⟩
  have el : us.length = ts.length := h2.length
  refine ⟨_, rfl, m, rfl, m0, m1, ?_⟩
  refine ⟨_, rfl, a, us, rfl, .inl h1, _, _, rfl, rfl, _, rfl, ifF (decide_eq_false (by omega)) ?_⟩
  refine ⟨_, rfl, a, rfl, ⟨_, h1⟩, for_list (K := K) (a := a) (xs := us) (fun i σ H' => H' = H ∧ ∃ x, σ = [some (.int (m : Int)), some (.ref a), x]) ⟨rfl, _, rfl⟩ (fun i σ H' _ h => h.1 ▸ h1) ?_ ?_⟩
  · rintro i x σ H' hx ⟨rfl, y, rfl⟩
    obtain ⟨t, ht, hx2⟩ := paired_at h2 hx
    exact ⟨_, rfl, _, rfl, m, x, t, rfl, hx2, O t (List.mem_of_getElem? ht), rfl, _, rfl⟩
  · rintro σ H' ⟨rfl, _⟩
    exact q
structure OkRow (m : Nat) (row : List Nat) : Prop where
  l0 : 1 ≤ row.length
  l1 : row.length ≤ 4
  nd : row.Nodup
  lt : ∀ l ∈ row, l < m
def sp_need_row (K : PySem.W.Frag) : Sp := fun vs H Q _ => ∃ (m : Nat) (a : Addr) (row : List Nat), vs = [.int (m : Int), .ref a] ∧ IsNats K H a row ∧ OkRow m row ∧ Q .non H
theorem b_need_row (G : Gs mg) (k : Nat) : Body P w K mg base k "need_row" s_need_row n_need_row (sp_need_row K) := by
  rintro f cdv A outer s H vs Q E hr ⟨m, a, row, rfl, h, O, q⟩
  refine ⟨_, pss_cons (ps_if (PW.pt (pw_or (pt_not (pt_chain op_le op_le pe_int (pe_callB call_len_seq rfl G.len PySem.boot_len (pa_cons (pv 1) pa_nil)) (pe_gi G.mostR)))
      (pw_or1 (pt_cmpR op_lt (RZ.pe_lenSetI rfl G.len rfl G.set (pv 1)) (pe_callB call_len_seq rfl G.len PySem.boot_len (pa_cons (pv 1) pa_nil)) (nomark _))))) pss_never pss_nil)
    (pss_one (ps_if (PW.pt (pw_or (pt_cmpR op_lt (pe_callB (cr_min rfl) rfl G.min PyProof.Rows.boot_min (pa_cons (pv 1) pa_nil)) pe_int (nomark _))
      (pw_or1 (pt_cmpR op_ge (pe_callB (cr_max rfl) rfl G.max PyProof.Rows.boot_max (pa_cons (pv 1) pa_nil)) (pv 0) (nomark _))))) pss_never pss_nil)), ?_⟩
  have l0 := O.l0; have l1 := O.l1
  have el : (natV row).length = row.length := natV_len row
  have en : (row.map fun i : Nat => (i : Int)).length = row.length := List.length_map ..
  have ndi : (row.map fun i : Nat => (i : Int)).Nodup := by
    unfold List.Nodup
    rw [List.pairwise_map]
    exact List.Pairwise.imp (fun {x y} h z => h (Int.ofNat.inj z)) O.nd
  have mem : ∀ z ∈ (row.map fun i : Nat => (i : Int)), 0 ≤ z ∧ z < m := fun z hz => by
    obtain ⟨i, hi, rfl⟩ := List.mem_map.mp hz
    have := O.lt i hi
    omega
  refine ⟨_, rfl, a, _, rfl, .inl h, _, _, rfl, rfl, _, rfl, ifT (decide_eq_true (by omega)) ⟨_, _, rfl, rfl, _, rfl, ?_⟩⟩
  refine ifF (by rw [decide_eq_true (by omega)]; rfl) ?_
  refine ⟨_, rfl, a, _, rfl, h, ndi, by omega, _, rfl, a, _, rfl, .inl h, _, _, rfl, rfl, _, rfl, ifF (decide_eq_false (by omega)) ?_⟩
  refine ⟨_, rfl, a, _, rfl, h, by omega, fun z hz _ => ?_⟩
  have h2 := mem z hz
  refine ⟨_, _, rfl, rfl, _, rfl, ifF (decide_eq_false (by omega)) ?_⟩
  refine ⟨_, rfl, a, _, rfl, h, by omega, fun y hy _ => ?_⟩
  have h3 := mem y hy
  exact ⟨_, rfl, _, _, rfl, rfl, _, rfl, ifF (decide_eq_false (by omega)) q⟩
def sp_need_in (K : PySem.W.Frag) : Sp := fun vs H Q _ => ∃ (a : Addr) (es rest : List Nat) (own : Nat), vs = [.ref a, .int (own : Int)] ∧ IsNats K H a (es ++ own :: rest) ∧ own ∉ es ∧ Q (.int (es.length : Int)) H
theorem nat_index {es rest : List Nat} {own : Nat} (hn : own ∉ es) : (natV (es ++ own :: rest))[es.length]? = some (.int (own : Int)) ∧ ∀ (m : Nat) (z : V), m < es.length → (natV (es ++ own :: rest))[m]? = some z → eqV z (.int (own : Int)) = false := by
  refine ⟨natV_at (by rw [List.getElem?_append_right (Nat.le_refl _), Nat.sub_self]; rfl), fun m z hm hz => ?_⟩
  obtain ⟨j, hj, rfl⟩ := natV_get hz
  rw [List.getElem?_append_left hm] at hj
  rw [eqV_int]
  exact decide_eq_false fun e => hn (by rw [← Int.ofNat.inj e]; exact List.mem_of_getElem? hj)
theorem b_need_in (k : Nat) : Body P w K mg base k "need_in" s_need_in n_need_in (sp_need_in K) := by
  rintro f cdv A outer s H vs Q E hr ⟨a, es, rest, own, rfl, h, hn, q⟩
  refine ⟨_, pss_cons (ps_if (pt_cmpR op_notIn_seq (pv 1) (pv 0) rfl) pss_never pss_nil)
    (pss_one (ps_ret (pe_bm PySem.F.plainAttrs_list PySem.F.slot_list_index PySem.F.type_list_index mt_index (pv 0) (pa_cons (pv 1) pa_nil)))), ?_⟩
  have hin : inV (.int (own : Int)) (natV (es ++ own :: rest)) = true := natV_in (List.mem_append_right _ (List.mem_cons_self ..))
  refine ⟨_, rfl, _, rfl, a, _, rfl, .inl h, rfl, natV_flat _, _, rfl, ifF (by rw [hin]; rfl) ?_⟩
  obtain ⟨h1, h2⟩ := nat_index (rest := rest) hn
  exact ⟨_, rfl, .inl ⟨rfl, _, h⟩, _, rfl, a, _, _, es.length, _, rfl, rfl, h, rfl, natV_flat _, h1, by rw [eqV_int]; exact decide_eq_true rfl, h2, q⟩
end
end Lh
namespace Lh
open PySem PySem.Spec PyProof.Rows L2 Evl
/-! ### a table in the heap -/
def rowV (n : Nat) (f : Nat → Int) : List V := (List.range n).map fun j => V.int (f j)
theorem rowV_len (n : Nat) (f : Nat → Int) : (rowV n f).length = n := by
  unfold rowV
  rw [List.length_map, List.length_range]
theorem rowV_get {n j : Nat} {f : Nat → Int} (h : j < n) : (rowV n f)[j]? = some (.int (f j)) := by
  unfold rowV
  rw [List.getElem?_map, List.getElem?_range h]
  rfl
theorem rowV_congr {n : Nat} {f g : Nat → Int} (h : ∀ j, j < n → f j = g j) : rowV n f = rowV n g := by
  unfold rowV
  exact List.map_congr_left fun j hj => by rw [h j (List.mem_range.mp hj)]
theorem rowV_set {n j : Nat} {f : Nat → Int} {v : Int} (h : j < n) : (rowV n f).set j (.int v) = rowV n (fun i => if i = j then v else f i) := by
  refine List.ext_getElem? fun i => ?_
  rw [List.getElem?_set]
  by_cases e : j = i
  · subst e
    rw [if_pos rfl, if_pos (by rw [rowV_len]; exact h), rowV_get h, if_pos rfl]
  · rw [if_neg e]
    by_cases hi : i < n
    · rw [rowV_get hi, rowV_get hi, if_neg fun z => e z.symm]
    · rw [List.getElem?_eq_none_iff.mpr (by rw [rowV_len]; omega), List.getElem?_eq_none_iff.mpr (by rw [rowV_len]; omega)]
structure TabIn (H : Hp) (a : Addr) (n : Nat) (U : Tab) (rows : List Addr) : Prop where
  at_ : H a = some (.lst (rows.map V.ref))
  len : rows.length = n
  row : ∀ i r, rows[i]? = some r → H r = some (.lst (rowV n (U i)))
def TabAt (H : Hp) (a : Addr) (n : Nat) (U : Tab) : Prop := ∃ rows, TabIn H a n U rows
/-- a table that H0 does not know -/
structure TabFr (H0 H : Hp) (a : Addr) (n : Nat) (U : Tab) (rows : List Addr) : Prop where
  t : TabIn H a n U rows
  fa : H0 a = none
  fr : ∀ r ∈ rows, H0 r = none ∧ r ≠ a
  nd : rows.Nodup
theorem TabIn.kp {H H' : Hp} {a : Addr} {n : Nat} {U : Tab} {rows : List Addr} (t : TabIn H a n U rows) (e : Kp H H') : TabIn H' a n U rows :=
  ⟨e _ _ t.at_ (fun ps z => by cases z), t.len, fun i r h => e _ _ (t.row i r h) (fun ps z => by cases z)⟩
theorem TabAt.kp {H H' : Hp} {a : Addr} {n : Nat} {U : Tab} (t : TabAt H a n U) (e : Kp H H') : TabAt H' a n U := by
  obtain ⟨rows, t⟩ := t
  exact ⟨rows, t.kp e⟩
theorem TabIn.congr {H : Hp} {a : Addr} {n : Nat} {U W : Tab} {rows : List Addr} (t : TabIn H a n U rows) (h : ∀ i j, i < n → j < n → U i j = W i j) : TabIn H a n W rows :=
  ⟨t.at_, t.len, fun i r e => by
    have hi : i < n := by
      have := (List.getElem?_eq_some_iff.mp e).1
      rw [t.len] at this
      exact this
    rw [t.row i r e, rowV_congr fun j hj => h i j hi hj]⟩
theorem TabFr.congr {H0 H : Hp} {a : Addr} {n : Nat} {U W : Tab} {rows : List Addr} (t : TabFr H0 H a n U rows) (h : ∀ i j, i < n → j < n → U i j = W i j) : TabFr H0 H a n W rows := ⟨t.t.congr h, t.fa, t.fr, t.nd⟩
theorem TabFr.ex {H0 H H' : Hp} {a : Addr} {n : Nat} {U : Tab} {rows : List Addr} (t : TabFr H0 H a n U rows) (e : Ex H H') : TabFr H0 H' a n U rows := ⟨t.t.kp (Kp.of e), t.fa, t.fr, t.nd⟩
theorem TabIn.rowAt {H : Hp} {a : Addr} {n i : Nat} {U : Tab} {rows : List Addr} (t : TabIn H a n U rows) (hi : i < n) : ∃ r, rows[i]? = some r ∧ r ∈ rows ∧ (rows.map V.ref)[i]? = some (.ref r) ∧ H r = some (.lst (rowV n (U i))) := by
  have h : i < rows.length := by rw [t.len]; exact hi
  refine ⟨rows[i], List.getElem?_eq_getElem h, List.getElem_mem h, ?_, t.row i _ (List.getElem?_eq_getElem h)⟩
  rw [List.getElem?_map, List.getElem?_eq_getElem h]
  rfl
/-- table[i][j] = v -/
theorem TabFr.set {H0 H : Hp} {a r : Addr} {n i j : Nat} {U : Tab} {rows : List Addr} {v : Int} (t : TabFr H0 H a n U rows) (hr : rows[i]? = some r) (hj : j < n) :
    TabFr H0 (upd H r (.lst ((rowV n (U i)).set j (.int v)))) a n (upT U i j v) rows := by
  have hm : r ∈ rows := List.mem_of_getElem? hr
  refine ⟨⟨by rw [upd_ne (t.fr r hm).2.symm]; exact t.t.at_, t.t.len, fun k q hq => ?_⟩, t.fa, t.fr, t.nd⟩
  by_cases e : q = r
  · subst e
    have ek : k = i := nd_ix t.nd hq hr
    subst ek
    rw [upd_same, rowV_set hj]
    refine congrArg (fun z => some (HO.lst z)) (rowV_congr fun l hl => ?_)
    unfold upT
    by_cases e2 : l = j
    · rw [if_pos e2, if_pos ⟨rfl, e2⟩]
    · rw [if_neg e2, if_neg fun z => e2 z.2]
  · rw [upd_ne e, t.t.row k q hq]
    have ek : k ≠ i := fun z => e (by rw [z, hr] at hq; exact (Option.some.inj hq).symm)
    refine congrArg (fun z => some (HO.lst z)) (rowV_congr fun l hl => ?_)
    unfold upT
    rw [if_neg fun z => ek z.1]
theorem TabFr.exSet {H0 H : Hp} {a r : Addr} {n : Nat} {U : Tab} {rows : List Addr} {o : HO} (t : TabFr H0 H a n U rows) (e : Ex H0 H) (hm : r ∈ rows) : Ex H0 (upd H r o) := Ex.mut e (t.fr r hm).1
section
variable {K : PySem.W.Frag} {σ : L2.St} {H : Hp} {ta ti tj : TE}
theorem ev_row {a : Addr} {n i : Nat} {U : Tab} {rows : List Addr} {r : Addr} (t : TabIn H a n U rows) (hr : rows[i]? = some r) (ha : Ev ta σ H (.ref a)) (h1 : Ev ti σ H (.int (i : Int))) : Ev (tOp (rIxL K) ta ti) σ H (.ref r) :=
  ev_op ha h1 (rv_ixL (sq_of t.at_) (atI_nat (by rw [List.getElem?_map, hr]; rfl)))
theorem ev_cell {a : Addr} {n i j : Nat} {U : Tab} {rows : List Addr} (t : TabIn H a n U rows) (hi : i < n) (hj : j < n) (ha : Ev ta σ H (.ref a)) (h1 : Ev ti σ H (.int (i : Int))) (h2 : Ev tj σ H (.int (j : Int))) :
    Ev (tOp (rIxL K) (tOp (rIxL K) ta ti) tj) σ H (.int (U i j)) := by
  obtain ⟨r, hr, _, _, h⟩ := t.rowAt hi
  exact ev_op (ev_row t hr ha h1) h2 (rv_ixL (sq_of h) (atI_nat (rowV_get hj)))
end
theorem ev_cbL {σ : L2.St} {H : Hp} {te : TE} {xs : List V} {z : V} {r : List V → Hp → VK → Prop} (h : EvL te σ H xs) (hr : ∀ p H1, H1 p = some (.lst xs) → Ex H H1 → RC r [.ref p] H1 z) : Ev (tCB r (tCons te tNil)) σ H z := fun H1 e Q q =>
  h H1 e _ fun p H2 _ e2 hp => hr p H2 hp (e.trans e2) H2 (Ex.refl H2) Q fun H3 e3 => q H3 (e2.trans e3)
theorem rc_any {K : PySem.W.Frag} {p : Addr} {H : Hp} {bs : List Bool} {b : Bool} (h : SqL K H p (bs.map V.bl)) (e : bs.any id = b) : RC (rAny K) [.ref p] H (.bl b) := fun H1 e1 Q q => ⟨p, bs, rfl, ex_l e1 h, by rw [e]; exact q H1 (Ex.refl H1)⟩
theorem rc_all {K : PySem.W.Frag} {p : Addr} {H : Hp} {bs : List Bool} {b : Bool} (h : SqL K H p (bs.map V.bl)) (e : bs.all id = b) : RC (rAll K) [.ref p] H (.bl b) := fun H1 e1 Q q => ⟨p, bs, rfl, ex_l e1 h, by rw [e]; exact q H1 (Ex.refl H1)⟩
theorem rc_len {K : PySem.W.Frag} {p : Addr} {H : Hp} {xs : List V} {n : Int} (h : SqL K H p xs) (e : (xs.length : Int) = n) : RC (rLenS K) [.ref p] H (.int n) := fun H1 e1 Q q => ⟨p, xs, rfl, .inl (ex_l e1 h), by rw [e]; exact q H1 (Ex.refl H1)⟩
theorem given_all (n : Nat) (v : Nat → V) : given n (fun _ => true) v = (List.range n).map v := by
  unfold given
  rw [List.filter_eq_self.mpr fun _ _ => rfl]
theorem ifMax (i j : Int) : (if j > i then j else i) = max i j := by omega
theorem ifMin (i j : Int) : (if j < i then j else i) = min i j := by omega

section
variable {P : Program} {w : World} {K : PySem.W.Frag} {mg : Str → Option Value} {base : Heap}
/-! ### first_table -/
def sp_first_table : Sp := fun vs H Q _ => ∃ m : Nat, vs = [.int (m : Int)] ∧ m ≤ 10 ∧ ∀ a rows H', Ex H H' → TabFr H H' a (m + 1) (tab0 m) rows → Q (.ref a) H'
theorem b_first_table (G : Gs mg) (k : Nat) : Body P w K mg base k "first_table" s_first_table n_first_table sp_first_table := by
  rintro f cdv A outer s H vs Q E hr ⟨m, rfl, hm, q⟩
  have nd := sc_first_table.nd
  refine ⟨_, pss_cons (ps_set (i := 1) nd rfl (.inl rfl) (pe_op op_add (pv 0) pe_int)) (pss_cons (ps_set (i := 2) nd rfl (.inl rfl) (pe_lst pa_nil))
    (pss_cons (ps_for PassesOwn.never rfl (pi_range1 rfl G.range (pa_cons (pv 1) pa_nil)) (pg_name (i := 3) nd rfl (.inr rfl))
      (pss_one (ps_expr (pe_bm PySem.F.plainAttrs_list PySem.F.slot_list_append PySem.F.type_list_append mt_append (pv 2) (pa_cons
        (pe_lc (own := [("other", 4)]) (g := gName 4) rfl nd (pi_range1 rfl G.range (pa_cons (pv 1) pa_nil)) (blkOk_by (own := [("other", 4)]) (N := n_first_table) (sc := defScope s_first_table) (by decide +kernel))
          (fun _ _ _ _ _ => pg_name (i := 4) nd rfl (.inl rfl)) (fun _ _ _ _ _ => pts_nil)
          (fun _ _ _ _ _ => pe_ifExp (PW.pt (pw_or (pt_cmpR op_eq (pv 3) (pv 4) (nomark _)) (pw_or1 (pt_cmpR op_eq (pv 4) (pv 0) (nomark _))))) pe_int (pe_un un_neg (pe_gi G.lastDay)))) pa_nil)))))
    (pss_one (ps_ret (pv 2))))), ?_⟩
  refine q_asg (ev_op (ev_var rfl) ev_c rv_I0) fun H1 e1 => ?_
  refine q_asgL (el_lst ea_nil (Nat.zero_le _)) fun tb H2 hp e2 h2 => ?_
  have ft : H tb = none := fresh_back e1 hp
  have e12 : Ex H H2 := e1.trans e2
  refine q_forR1 (n := ((m + 1 : Nat) : Int)) (ea_cons (ev_var rfl) ea_nil) ⟨by omega, by omega⟩ (fun i σ' H' => ∃ (rows : List Addr) (x3 x4 : Option V), σ' = [some (.int (m : Int)), some (.int ((m : Int) + 1)), some (.ref tb), x3, x4] ∧ Ex H H' ∧
    H' tb = some (.lst (rows.map V.ref)) ∧ rows.length = i ∧ rows.Nodup ∧ (∀ r ∈ rows, H r = none ∧ r ≠ tb) ∧ ∀ k r, rows[k]? = some r → H' r = some (.lst (rowV (m + 1) (tab0 m k)))) ?_ ?_ ?_
  · intro H3 e3
    exact ⟨[], none, none, rfl, e12.trans e3, e3 _ _ h2, rfl, List.nodup_nil, (fun r hr => by cases hr), fun k r hr => by simp at hr⟩
  · rintro i σ' H' hi ⟨rows, x3, x4, rfl, ee, h3, hl, hn, hf, hrow⟩
    refine s_appL h3 (ev_var rfl) (ys := rowV (m + 1) (tab0 m i)) ?_ (by rw [List.length_map]; omega) fun p H4 hp4 e4 h4 => ?_
    · have hcomp := el_lcR1 (σ := [some (.int (m : Int)), some (.int ((m : Int) + 1)), some (.ref tb), some (.int (i : Int)), x4]) (H := H') (j := 4) (vs := [4]) (n := ((m + 1 : Nat) : Int)) (fun _ => true) (fun j => V.int (tab0 m i j))
        (t := tYes) (te := tIf (tOr (tTest (tOp rEq (tVar 3) (tVar 4))) (tTest (tOp rEq (tVar 4) (tVar 0)))) (tC (.int 0)) (tUn (rU fun i => .int (-i)) (tC (.int 9999))))
        (ta := tCons (tVar 1) tNil) (ea_cons (ev_var rfl) ea_nil) ⟨by omega, by omega⟩ (fun x => rfl) (fun j H5 _ _ H6 _ Q' q' => q' H6 (Ex.refl H6)) fun j H5 _ hj _ => ?_
      · rw [given_all] at hcomp
        exact hcomp
      · refine ev_if (et_or (et_test (ev_op (ev_var rfl) (ev_var rfl) (rv_eq rfl))) fun _ => et_test (ev_op (ev_var rfl) (ev_var rfl) (rv_eq rfl))) (fun hb => ?_) (fun hb => ?_)
        · refine ev_is ev_c ?_
          rw [Bool.or_eq_true, decide_eq_true_eq, decide_eq_true_eq, V.int.injEq, V.int.injEq] at hb
          unfold tab0
          rw [if_pos (by omega)]
        · refine ev_is (ev_un ev_c ru_neg) ?_
          rw [Bool.or_eq_false_iff, decide_eq_false_iff_not, decide_eq_false_iff_not, V.int.injEq, V.int.injEq] at hb
          unfold tab0
          rw [if_neg (by omega)]
    · have npt : p ≠ tb := fun z => by
        rw [z, h3] at hp4
        cases hp4
      refine ⟨rows ++ [p], _, _, rfl, Ex.mut (ee.trans e4) ft, by rw [upd_same, List.map_append]; rfl, by rw [List.length_append]; simp [hl], ?_, ?_, ?_⟩
      · refine List.nodup_append.mpr ⟨hn, by simp, fun a ha b hb => ?_⟩
        rw [List.mem_singleton.mp hb]
        intro z
        obtain ⟨k, hk⟩ := List.mem_iff_getElem?.mp ha
        have := hrow k a hk
        rw [z, hp4] at this
        cases this
      · intro r hr
        rcases List.mem_append.mp hr with hr | hr
        · exact hf r hr
        · rw [List.mem_singleton.mp hr]
          exact ⟨fresh_back ee hp4, npt⟩
      · intro k r hr
        by_cases hk : k < rows.length
        · rw [List.getElem?_append_left hk] at hr
          have hm := hf r (List.mem_of_getElem? hr)
          rw [upd_ne hm.2]
          exact e4 _ _ (hrow k r hr)
        · have hk2 : k = rows.length := by
            have := (List.getElem?_eq_some_iff.mp hr).1
            rw [List.length_append, List.length_singleton] at this
            omega
          subst hk2
          rw [List.getElem?_append_right (Nat.le_refl _), Nat.sub_self] at hr
          have er : p = r := Option.some.inj hr
          subst er
          rw [upd_ne npt, hl]
          exact h4
  · rintro σ' H' ⟨rows, x3, x4, rfl, ee, h3, hl, hn, hf, hrow⟩
    refine s_ret (ev_var rfl) fun H5 e5 => ?_
    have hl' : rows.length = m + 1 := by omega
    exact q tb rows H5 (ee.trans e5) ⟨⟨e5 _ _ h3, hl', fun i r h => e5 _ _ (hrow i r h)⟩, ft, hf, hn⟩
end
end Lh
namespace Lh
open PySem PySem.Spec PyProof.Rows L2 Evl
theorem fw_none {n : Nat} {T : Tab} {k : Nat} (h : fw n T k = none) : ∀ j, k ≤ j → fw n T j = none
  | 0, hj => by
    have e : k = 0 := by omega
    subst e
    exact h
  | j + 1, hj => by
    by_cases e : k = j + 1
    · subst e
      exact h
    · have ih := fw_none h j (by omega)
      show (match fw n T j with | none => none | some U => if badDiag n (phase U j) = true then none else some (phase U j)) = none
      rw [ih]
theorem fw_yes {n : Nat} {T U : Tab} {k : Nat} (h : fw n T k = some U) (hb : badDiag n (phase U k) = true) : fw n T (k + 1) = none := by
  show (match fw n T k with | none => none | some U => if badDiag n (phase U k) = true then none else some (phase U k)) = none
  rw [h]
  exact if_pos hb
theorem fw_no {n : Nat} {T U : Tab} {k : Nat} (h : fw n T k = some U) (hb : badDiag n (phase U k) = false) : fw n T (k + 1) = some (phase U k) := by
  show (match fw n T k with | none => none | some U => if badDiag n (phase U k) = true then none else some (phase U k)) = _
  rw [h]
  exact if_neg (by rw [hb]; decide)
/-- a phase in the midst of a row -/
def midT (V : Tab) (k i j : Nat) : Tab := fun a b => if a < i ∨ (a = i ∧ b < j) then phase V k a b else V a b
theorem phase_col {V : Tab} {k a : Nat} (h : V k k ≤ 0) : phase V k a k = V a k := by
  unfold phase
  omega
theorem phase_row {V : Tab} {k b : Nat} (h : V k k ≤ 0) : phase V k k b = V k b := by
  unfold phase
  omega
theorem midT_row {V : Tab} {k i j b : Nat} (h : V k k ≤ 0) : midT V k i j k b = V k b := by
  unfold midT
  split
  · exact phase_row h
  · rfl
theorem midT_here {V : Tab} {k i j : Nat} : midT V k i j i j = V i j := by
  unfold midT
  rw [if_neg (by omega)]
theorem midT_step {V : Tab} {k i j : Nat} : upT (midT V k i j) i j (max (V i j) (V i k + V k j)) = midT V k i (j + 1) := by
  funext a b
  unfold upT midT
  by_cases e : a = i ∧ b = j
  · rw [if_pos e, if_pos (by omega)]
    obtain ⟨rfl, rfl⟩ := e
    rfl
  · rw [if_neg e]
    by_cases h : a < i ∨ (a = i ∧ b < j)
    · rw [if_pos h, if_pos (by omega)]
    · rw [if_neg h, if_neg (by omega)]
section
variable {P : Program} {w : World} {K : PySem.W.Frag} {mg : Str → Option Value} {base : Heap}
def sp_tightened : Sp := fun vs H Q _ => ∃ (H0 : Hp) (a : Addr) (n : Nat) (U : Tab) (rows : List Addr), vs = [.ref a] ∧ Ex H0 H ∧ TabFr H0 H a n U rows ∧ n ≤ 11 ∧ (∀ i, i < n → U i i ≤ 0) ∧
  (fw n U n = none → ∀ H', Ex H0 H' → Q .non H') ∧ ∀ V, fw n U n = some V → ∀ H', Ex H0 H' → TabFr H0 H' a n V rows → Q (.ref a) H'
theorem b_tightened (G : Gs mg) (k : Nat) : Body P w K mg base k "tightened" s_tightened n_tightened sp_tightened := by
  rintro f cdv A outer s H vs Q E hr ⟨H0, a, n, U, rows, rfl, e0, t0, hn, hd, q0, q1⟩
  have nd := sc_tightened.nd
  refine ⟨_, pss_cons (ps_set (i := 1) nd rfl (.inl rfl) (pe_callB call_len_seq rfl G.len PySem.boot_len (pa_cons (pv 0) pa_nil)))
    (pss_cons (ps_for PassesOwn.never rfl (pi_range1 rfl G.range (pa_cons (pv 1) pa_nil)) (pg_name (i := 2) nd rfl (.inl rfl))
      (pss_cons (ps_for PassesOwn.never rfl (pi_range1 rfl G.range (pa_cons (pv 1) pa_nil)) (pg_name (i := 3) nd rfl (.inl rfl))
          (pss_cons (ps_set (i := 4) nd rfl (.inl rfl) (pe_ix ix_list (pe_ix ix_list (pv 0) (pv 3) (fun _ _ => rfl)) (pv 2) (fun _ _ => rfl)))
          (pss_one (ps_for PassesOwn.never rfl (pi_range1 rfl G.range (pa_cons (pv 1) pa_nil)) (pg_name (i := 5) nd rfl (.inl rfl))
            (pss_one (ps_asg (pe_callB (call_max2 rfl) rfl G.max PyProof.Rows.boot_max (pa_cons (pe_ix ix_list (pe_ix ix_list (pv 0) (pv 3) (fun _ _ => rfl)) (pv 5) (fun _ _ => rfl))
                (pa_cons (pe_op op_add (pv 4) (pe_ix ix_list (pe_ix ix_list (pv 0) (pv 2) (fun _ _ => rfl)) (pv 5) (fun _ _ => rfl))) pa_nil)))
              (pg_sub (pe_ix ix_list (pv 0) (pv 3) (fun _ _ => rfl)) (pv 5) set_list)))))))
      (pss_one (ps_if (pt_val (pe_callB (cr_any rfl) rfl G.any PyProof.Rows.boot_any (pa_cons
          (pe_lc (own := [("point", 6)]) (g := gName 6) rfl nd (pi_range1 rfl G.range (pa_cons (pv 1) pa_nil)) (blkOk_by (own := [("point", 6)]) (N := n_tightened) (sc := defScope s_tightened) (by decide +kernel))
            (fun _ _ _ _ _ => pg_name (i := 6) nd rfl (.inl rfl)) (fun _ _ _ _ _ => pts_nil)
            (fun _ _ _ _ _ => pe_cmpR op_gt (pe_ix (r := rIxL K) ix_list (pe_ix (r := rIxL K) ix_list (pv 0) (pv 6) (fun _ _ => rfl)) (pv 6) (fun _ _ => rfl)) pe_int (nomark _))) pa_nil)))
        (pss_one (ps_ret pe_non)) pss_nil))))
    (pss_one (ps_ret (pv 0)))), ?_⟩
  have fw0 : ∀ {k : Nat} {V : Tab}, k ≤ n → fw n U k = some V → ∀ i, i < n → V i i ≤ 0 := fun hk h => (fw_facts hd _ _ hk h).2.1
  have lenH : (rows.map L2.V.ref).length = n := by rw [List.length_map]; exact t0.t.len
  refine q_asg (v := .int (n : Int)) (ev_is (ev_cb (z := .int ((rows.map L2.V.ref).length : Int)) (ea_cons (ev_var rfl) ea_nil) fun H1 e1 Q' q' => ⟨a, rows.map L2.V.ref, rfl, .inl (sq_of (e1 _ _ t0.t.at_)), q' H1 (Ex.refl H1)⟩) (by rw [lenH])) fun H1 e1 => ?_
  refine q_forR1 (n := (n : Int)) (ea_cons (ev_var rfl) ea_nil) ⟨by omega, by omega⟩ (fun k σ' H' => ∃ (V : Tab) (x2 x3 x4 x5 x6 : Option L2.V), σ' = [some (.ref a), some (.int (n : Int)), x2, x3, x4, x5, x6] ∧ fw n U k = some V ∧ Ex H0 H' ∧ TabFr H0 H' a n V rows) ?_ ?_ ?_
  · intro H2 e2
    exact ⟨U, _, _, _, _, _, rfl, rfl, (e0.trans e1).trans e2, t0.ex (e1.trans e2)⟩
  · rintro k σ' H' hk ⟨V, x2, x3, x4, x5, x6, rfl, hV, ee, t⟩
    have hkn : k < n := by omega
    have hkk := fw0 (by omega) hV k hkn
    -- for one
    refine q_forR1 (n := (n : Int)) (ea_cons (ev_var rfl) ea_nil) ⟨by omega, by omega⟩ (fun i σ' H' => ∃ (x3 x4 x5 x6 : Option L2.V), σ' = [some (.ref a), some (.int (n : Int)), some (.int (k : Int)), x3, x4, x5, x6] ∧ Ex H0 H' ∧ TabFr H0 H' a n (midT V k i 0) rows) ?_ ?_ ?_
    · intro H2 e2
      exact ⟨_, _, _, _, rfl, ee.trans e2, (t.ex e2).congr fun i j _ _ => by unfold midT; rw [if_neg (by omega)]⟩
    · rintro i σ' H' hi ⟨x3, x4, x5, x6, rfl, ee, t⟩
      have hin : i < n := by omega
      refine q_asg (v := .int (V i k)) (ev_is (ev_cell t.t hin hkn (ev_var rfl) (ev_var rfl) (ev_var rfl)) ?_) fun H2 e2 => ?_
      · unfold midT
        rw [if_neg (by omega)]
      · refine s_forR1 (n := (n : Int)) (ea_cons (ev_var rfl) ea_nil) ⟨by omega, by omega⟩ (fun j σ' H' => ∃ (x5 x6 : Option L2.V), σ' = [some (.ref a), some (.int (n : Int)), some (.int (k : Int)), some (.int (i : Int)), some (.int (V i k)), x5, x6] ∧ Ex H0 H' ∧ TabFr H0 H' a n (midT V k i j) rows) ?_ ?_ ?_
        · intro H3 e3
          exact ⟨_, _, rfl, (ee.trans e2).trans e3, t.ex (e2.trans e3)⟩
        · rintro j σ' H' hj ⟨x5, x6, rfl, ee, t⟩
          have hjn : j < n := by omega
          obtain ⟨r, hr, hm, hr2, hrow⟩ := t.t.rowAt hin
          refine s_setL (j := j) (v := .int (max (V i j) (V i k + V k j))) hrow ?_ (ev_row t.t hr (ev_var rfl) (ev_var rfl)) (ev_var rfl) (by rw [rowV_len]; exact hjn) fun H3 e3 => ?_
          · refine ev_is (ev_max2 (ev_cell t.t hin hjn (ev_var rfl) (ev_var rfl) (ev_var rfl)) (ev_op (ev_var rfl) (ev_cell t.t hkn hjn (ev_var rfl) (ev_var rfl) (ev_var rfl)) rv_I0)) ?_
            rw [ifMax, midT_here, midT_row hkk]
          · have t3 := (t.ex e3).set (v := max (V i j) (V i k + V k j)) hr hjn
            rw [midT_step] at t3
            exact ⟨_, _, rfl, (t.ex e3).exSet (ee.trans e3) hm, t3⟩
        · rintro σ' H' ⟨x5, x6, rfl, ee, t⟩
          refine ⟨_, _, _, _, rfl, ee, t.congr fun p q hp hq => ?_⟩
          unfold midT
          by_cases h : p < i ∨ (p = i ∧ q < n)
          · rw [if_pos (by omega), if_pos (by omega)]
          · rw [if_neg (by omega), if_neg (by omega)]
    · rintro σ' H' ⟨x3, x4, x5, x6, rfl, ee, t⟩
      have t' : TabFr H0 H' a n (phase V k) rows := t.congr fun p q hp hq => by
        unfold midT
        rw [if_pos (by omega)]
      have hcomp := el_lcR1 (σ := [some (.ref a), some (.int (n : Int)), some (.int (k : Int)), x3, x4, x5, x6]) (H := H') (j := 6) (vs := [6]) (n := (n : Int)) (fun _ => true) (fun p => L2.V.bl (decide (0 < phase V k p p)))
        (t := tYes) (te := tOp (rI0 fun i j => L2.V.bl (decide (j < i))) (tOp (rIxL K) (tOp (rIxL K) (tVar 0) (tVar 6)) (tVar 6)) (tC (.int 0)))
        (ta := tCons (tVar 1) tNil) (ea_cons (ev_var rfl) ea_nil) ⟨by omega, by omega⟩ (fun x => rfl) (fun j H5 _ _ H6 _ Q' q' => q' H6 (Ex.refl H6)) fun p H5 e5 hp _ =>
          ev_op (ev_cell (t'.ex e5).t (by omega) (by omega) (ev_var rfl) (ev_var rfl) (ev_var rfl)) ev_c rv_I0
      rw [given_all] at hcomp
      refine s_when (b := badDiag n (phase V k)) (et_B (ev_cbL hcomp fun p H3 h3 _ => rc_any (bs := (List.range n).map fun p => decide (0 < phase V k p p)) (sq_of ?_) ?_)) (fun hb H2 e2 => ?_) (fun hb H2 e2 => ?_)
      · rw [h3, List.map_map]
        rfl
      · unfold badDiag
        rw [List.any_map]
        rfl
      · exact q0 (fw_none (fw_yes hV hb) n (by omega)) _ (ee.trans e2)
      · exact ⟨phase V k, _, _, _, _, _, rfl, fw_no hV hb, ee.trans e2, t'.ex e2⟩
  · rintro σ' H' ⟨V, x2, x3, x4, x5, x6, rfl, hV, ee, t⟩
    exact s_ret (ev_var rfl) fun H2 e2 => q1 V hV H2 (ee.trans e2) (t.ex e2)
end
end Lh
namespace Lh
open PySem PySem.Spec PyProof.Rows L2 Evl
theorem nd_int {m : Nat} {a : Int} (h : -1 ≤ a) : ((nd m a : Nat) : Int) = if a = -1 then (m : Int) else a := by
  unfold nd
  split <;> omega
theorem ixN_neg1 {n : Nat} (h : 0 < n) : ixN n (-1) = some (n - 1) := by
  unfold ixN
  rw [if_neg (by decide), if_pos (by omega)]
  congr 1
  omega
theorem atI_neg1 {xs : List V} {n : Nat} {v : V} (hl : xs.length = n + 1) (h : xs[n]? = some v) : atI xs (-1) = some v := by
  unfold atI
  rw [hl, ixN_neg1 (by omega)]
  exact h
theorem cut_last {xs : List V} {n : Nat} (hl : xs.length = n + 1) : cutV xs none (some (-1)) = xs.take n := by
  unfold cutV
  rw [hl]
  have e1 : HT.sIx (n + 1) 0 none = 0 := rfl
  have e2 : HT.sIx (n + 1) (n + 1) (some (-1)) = n := by
    unfold HT.sIx
    first
      | (rw [if_pos (by decide)]; omega)
      | (split <;> omega)
      | (simp; omega)
  rw [e1, e2, List.drop_zero, Nat.sub_zero]
theorem take_range {n m : Nat} (h : n ≤ m) : (List.range m).take n = List.range n := by
  rw [List.take_range, Nat.min_eq_left h]
section
variable {P : Program} {w : World} {K : PySem.W.Frag} {mg : Str → Option Value} {base : Heap}
/-! ### table_of, need_table -/
def sp_table_of (K : PySem.W.Frag) : Sp := fun vs H Q _ => ∃ (m : Nat) (a : Addr) (ts : List Tie), vs = [.int (m : Int), .ref a] ∧ m ≤ 10 ∧ IsTies K H a ts ∧ (∀ t ∈ ts, GoodTie m t) ∧
  (tableOf m ts = none → ∀ H', Ex H H' → Q .non H') ∧ ∀ U, tableOf m ts = some U → ∀ b H', Ex H H' → H b = none → TabAt H' b (m + 1) U → Q (.ref b) H'
theorem b_table_of (G : Gs mg) {k : Nat} (C1 : C8.Cal P w K mg base k "first_table" sp_first_table []) (C2 : C8.Cal P w K mg base k "tightened" sp_tightened []) {j : Nat} (hk : k ≤ j) : Body P w K mg base j "table_of" s_table_of n_table_of (sp_table_of K) := by
  rintro f cdv A outer s H vs Q E hr ⟨m, a, ts, rfl, hm, ⟨us, hu, hts⟩, hg, q0, q1⟩
  have nd' := sc_table_of.nd
  refine ⟨_, pss_cons (ps_set (i := 2) nd' rfl (.inl rfl) (C8.pe_c C1 hr hk rfl (pa_cons (pv 0) pa_nil)))
    (pss_cons (ps_for PassesOwn.never rfl (pi_list (pv 1)) (pg_tup rfl (pgs_cons (pg_name (i := 3) nd' rfl (.inl rfl)) (pgs_cons (pg_name (i := 4) nd' rfl (.inl rfl)) (pgs_cons (pg_name (i := 5) nd' rfl (.inl rfl)) pgs_nil))))
      (pss_cons (ps_set (i := 6) nd' rfl (.inl rfl) (pe_ifExp (pt_cmpR op_eq (pv 3) (pe_gi G.beg) (nomark _)) (pv 0) (pv 3)))
      (pss_cons (ps_set (i := 7) nd' rfl (.inl rfl) (pe_ifExp (pt_cmpR op_eq (pv 4) (pe_gi G.beg) (nomark _)) (pv 0) (pv 4)))
      (pss_one (ps_asg (pe_callB (call_max2 rfl) rfl G.max PyProof.Rows.boot_max (pa_cons (pe_ix ix_list (pe_ix ix_list (pv 2) (pv 6) (fun _ _ => rfl)) (pv 7) (fun _ _ => rfl)) (pa_cons (pv 5) pa_nil)))
        (pg_sub (pe_ix ix_list (pv 2) (pv 6) (fun _ _ => rfl)) (pv 7) set_list))))))
    (pss_one (ps_ret (C8.pe_c C2 hr hk rfl (pa_cons (pv 2) pa_nil))))), ?_⟩
  refine ⟨_, rfl, m, rfl, hm, fun tb rows H1 e1 t1 => ?_⟩
  have el : us.length = ts.length := hts.length
  refine q_forL (a := a) (xs := us) (ev_var rfl) (ex_l e1 hu) (fun i σ' H' => ∃ (x3 x4 x5 x6 x7 : Option L2.V), σ' = [some (.int (m : Int)), some (.ref a), some (.ref tb), x3, x4, x5, x6, x7] ∧ Ex H H' ∧ TabFr H H' tb (m + 1) ((ts.take i).foldl (addTie m) (tab0 m)) rows) ?_ ?_ ?_ ?_
  · intro H2 e2
    exact ⟨_, _, _, _, _, rfl, e1.trans e2, t1.ex e2⟩
  · rintro i σ' H' _ ⟨_, _, _, _, _, _, ee, _⟩
    exact ex_l ee hu
  · rintro i x σ' H' hx ⟨x3, x4, x5, x6, x7, rfl, ee, t⟩
    obtain ⟨u, hut, hxt⟩ := paired_at hts hx
    obtain ⟨p, rfl, hp⟩ := hxt.kp (Kp.of ee)
    have g := hg u (List.mem_of_getElem? hut)
    have ha := nd_le g.a0 g.a1
    have hb := nd_le g.b0 g.b1
    refine ⟨p, _, rfl, hp, rfl, _, _, rfl, _, _, rfl, _, _, rfl, rfl, ?_⟩
    have hv : ∀ {c : Int}, -1 ≤ c → ∀ {b : Bool}, decide (L2.V.int c = L2.V.int (-1)) = b → (if b = true then (m : Int) else c) = ((nd m c : Nat) : Int) := fun {c} hc {b} hb => by
      rw [nd_int hc]
      by_cases e : c = -1
      · rw [if_pos e, ← hb, if_pos (decide_eq_true (by rw [e]))]
      · rw [if_neg e, ← hb, if_neg (by rw [decide_eq_true_eq]; exact fun z => e (V.int.inj z))]
    refine q_asg (v := .int ((nd m u.1 : Nat) : Int)) (ev_if (et_test (ev_op (ev_var rfl) ev_c (rv_eq rfl))) (fun h => ev_is (ev_var rfl) (by rw [← hv g.a0 h]; rfl)) (fun h => ev_is (ev_var rfl) (by rw [← hv g.a0 h]; rfl))) fun H2 e2 => ?_
    refine q_asg (v := .int ((nd m u.2.1 : Nat) : Int)) (ev_if (et_test (ev_op (ev_var rfl) ev_c (rv_eq rfl))) (fun h => ev_is (ev_var rfl) (by rw [← hv g.b0 h]; rfl)) (fun h => ev_is (ev_var rfl) (by rw [← hv g.b0 h]; rfl))) fun H3 e3 => ?_
    have t3 := t.ex (e2.trans e3)
    obtain ⟨r, hr, hm, hr2, hrow⟩ := t3.t.rowAt (i := nd m u.1) (by omega)
    refine s_setL (j := nd m u.2.1) (v := .int (max (((ts.take i).foldl (addTie m) (tab0 m)) (nd m u.1) (nd m u.2.1)) u.2.2)) hrow ?_ (ev_row t3.t hr (ev_var rfl) (ev_var rfl)) (ev_var rfl) (by rw [rowV_len]; omega) fun H4 e4 => ?_
    · exact ev_is (ev_max2 (ev_cell t3.t (by omega) (by omega) (ev_var rfl) (ev_var rfl) (ev_var rfl)) (ev_var rfl)) (by rw [ifMax])
    · have t4 := (t3.ex e4).set (v := max (((ts.take i).foldl (addTie m) (tab0 m)) (nd m u.1) (nd m u.2.1)) u.2.2) hr (j := nd m u.2.1) (by omega)
      refine ⟨_, _, _, _, _, rfl, (t3.ex e4).exSet (((ee.trans e2).trans e3).trans e4) hm, ?_⟩
      rw [List.take_add_one, hut, List.foldl_append]
      exact t4
  · rintro σ' H' ⟨x3, x4, x5, x6, x7, rfl, ee, t⟩
    rw [el, List.take_of_length_le (Nat.le_refl _)] at t
    have d0 : ∀ i, tabT m ts i i = 0 := foldTie_diag ts _ hg (tab0_diag m)
    refine ⟨_, rfl, H, tb, m + 1, tabT m ts, rows, rfl, ee, t, by omega, fun i _ => by rw [d0]; exact Int.le_refl _, fun h => q0 h, fun V hV H2 e2 t2 => ?_⟩
    exact q1 V hV tb H2 e2 t2.fa ⟨rows, t2.t⟩
def sp_need_table (K : PySem.W.Frag) : Sp := fun vs H Q _ => ∃ (m : Nat) (a : Addr) (ts : List Tie) (U : Tab), vs = [.int (m : Int), .ref a] ∧ m ≤ 10 ∧ IsTies K H a ts ∧ (∀ t ∈ ts, GoodTie m t) ∧ tableOf m ts = some U ∧
  ∀ b H', Ex H H' → H b = none → TabAt H' b (m + 1) U → Q (.ref b) H'
theorem b_need_table {k : Nat} (C1 : C8.Cal P w K mg base k "table_of" (sp_table_of K) []) {j : Nat} (hk : k ≤ j) : Body P w K mg base j "need_table" s_need_table n_need_table (sp_need_table K) := by
  rintro f cdv A outer s H vs Q E hr ⟨m, a, ts, U, rfl, hm, ht, hg, hU, q⟩
  refine ⟨_, pss_cons (ps_set (i := 2) sc_need_table.nd rfl (.inl rfl) (C8.pe_c C1 hr hk rfl (pa_cons (pv 0) (pa_cons (pv 1) pa_nil))))
    (pss_cons (ps_if (pt_cmpR op_isN (pv 2) pe_non (nomark _)) pss_never pss_nil) (pss_one (ps_ret (pv 2)))), ?_⟩
  refine ⟨_, rfl, _, rfl, m, a, ts, rfl, hm, ht, hg, fun h => ?_, fun V hV b H' e hb t => ?_⟩
  · rw [hU] at h
    cases h
  · rw [hU] at hV
    cases hV
    exact ⟨_, rfl, rfl, _, rfl, ifF rfl ⟨_, rfl, q b H' e hb t⟩⟩
/-! ### early_of, late_of -/
def sp_early_of : Sp := fun vs H Q _ => ∃ (m : Nat) (a : Addr) (U : Tab), vs = [.ref a] ∧ m ≤ 10 ∧ TabAt H a (m + 1) U ∧ RetL ((earlyL m U).map L2.V.int) H Q
theorem b_early_of (k : Nat) : Body P w K mg base k "early_of" s_early_of n_early_of sp_early_of := by
  rintro f cdv A outer s H vs Q E hr ⟨m, a, U, rfl, hm, ⟨rows, t⟩, q⟩
  have nd' := sc_early_of.nd
  refine ⟨_, pss_one (ps_ret (pe_lc (own := [("row", 1)]) (g := gName 1) rfl nd' (pi_list (pe_slice sl_list (pv 0) po_none (po_some (pe_un un_neg pe_int)))) (blkOk_by (own := [("row", 1)]) (N := n_early_of) (sc := defScope s_early_of) (by decide +kernel))
      (fun _ _ _ _ _ => pg_name (i := 1) nd' rfl (.inl rfl)) (fun _ _ _ _ _ => pts_nil) (fun _ _ _ _ _ => pe_ix (r := rIxL K) ix_list (pv 1) (pe_un un_neg pe_int) (fun _ _ => rfl)))), ?_⟩
  have hl : (rows.map L2.V.ref).length = m + 1 := by rw [List.length_map]; exact t.len
  have hcomp := el_lcNL (K := K) (σ := [some (.ref a), none]) (H := H) (j := 1) (vs := [1]) (xs := cutV (rows.map L2.V.ref) none (some (-1))) (fun _ => true) (fun i => L2.V.int (U i m)) (t := tYes) (te := tOp (rIxL K) (tVar 1) (tUn (rU fun i => .int (-i)) (tC (.int 1))))
    (el_sl (K := K) (ev_var (i := 0) rfl) eo_none (eo_some (ev_un ev_c ru_neg)) (sq_of t.at_)) (by rw [cut_last hl, List.length_take]; omega) (fun x => rfl) (fun i x H1 _ _ H2 _ Q' q' => q' H2 (Ex.refl H2)) (fun i x H1 e1 hx _ => by
      rw [cut_last hl] at hx
      have hi : i < m := by
        have := (List.getElem?_eq_some_iff.mp hx).1
        rw [List.length_take] at this
        omega
      rw [List.getElem?_take_of_lt hi] at hx
      obtain ⟨r, hr, _, hr2, hrow⟩ := t.rowAt (i := i) (by omega)
      rw [hr2] at hx
      cases hx
      exact ev_op (ev_var rfl) (ev_un ev_c ru_neg) (rv_ixL (sq_of (e1 _ _ hrow)) (atI_neg1 (rowV_len _ _) (rowV_get (by omega)))))
  rw [given_all, cut_last hl, List.length_take, hl, Nat.min_eq_left (by omega)] at hcomp
  refine s_retL hcomp fun p H1 hp e1 h1 => q p H1 hp e1 ?_
  rw [h1]
  unfold earlyL
  rw [List.map_map]
  rfl
def sp_late_of : Sp := fun vs H Q _ => ∃ (m : Nat) (a : Addr) (U : Tab), vs = [.ref a] ∧ m ≤ 10 ∧ TabAt H a (m + 1) U ∧ RetL ((lateL m U).map L2.V.int) H Q
theorem b_late_of (k : Nat) : Body P w K mg base k "late_of" s_late_of n_late_of sp_late_of := by
  rintro f cdv A outer s H vs Q E hr ⟨m, a, U, rfl, hm, ⟨rows, t⟩, q⟩
  have nd' := sc_late_of.nd
  refine ⟨_, pss_one (ps_ret (pe_lc (own := [("least", 1)]) (g := gName 1) rfl nd' (pi_list (pe_slice sl_list (pe_ix ix_list (pv 0) (pe_un un_neg pe_int) (fun _ _ => rfl)) po_none (po_some (pe_un un_neg pe_int)))) (blkOk_by (own := [("least", 1)]) (N := n_late_of) (sc := defScope s_late_of) (by decide +kernel))
      (fun _ _ _ _ _ => pg_name (i := 1) nd' rfl (.inl rfl)) (fun _ _ _ _ _ => pts_nil) (fun _ _ _ _ _ => pe_un un_neg (pv 1)))), ?_⟩
  obtain ⟨r, hr, _, hr2, hrow⟩ := t.rowAt (i := m) (by omega)
  have hl : (rows.map L2.V.ref).length = m + 1 := by rw [List.length_map]; exact t.len
  have hl2 := rowV_len (m + 1) (U m)
  have hcomp := el_lcNL (K := K) (σ := [some (.ref a), none]) (H := H) (j := 1) (vs := [1]) (xs := cutV (rowV (m + 1) (U m)) none (some (-1))) (fun _ => true) (fun i => L2.V.int (- U m i)) (t := tYes) (te := tUn (rU fun i => .int (-i)) (tVar 1))
    (el_sl (K := K) (ev_op (ev_var (i := 0) rfl) (ev_un ev_c ru_neg) (rv_ixL (K := K) (sq_of t.at_) (atI_neg1 hl hr2))) eo_none (eo_some (ev_un ev_c ru_neg)) (sq_of hrow)) (by rw [cut_last hl2, List.length_take]; omega) (fun x => rfl) (fun i x H1 _ _ H2 _ Q' q' => q' H2 (Ex.refl H2)) (fun i x H1 e1 hx _ => by
      rw [cut_last hl2] at hx
      have hi : i < m := by
        have := (List.getElem?_eq_some_iff.mp hx).1
        rw [List.length_take] at this
        omega
      rw [List.getElem?_take_of_lt hi, rowV_get (by omega)] at hx
      cases hx
      exact ev_un (ev_var rfl) ru_neg)
  rw [given_all, cut_last hl2, List.length_take, hl2, Nat.min_eq_left (by omega)] at hcomp
  refine s_retL hcomp fun p H1 hp e1 h1 => q p H1 hp e1 ?_
  rw [h1]
  unfold lateL
  rw [List.map_map]
  rfl
end
end Lh
namespace Lh
open PySem PySem.Spec PyProof.Rows L2 Evl
/-! ### an Asked in the heap -/
def flds (ta ea ba : Addr) (start stop : Int) (m own : Nat) : List (Str × L2.V) := [("table", .ref ta), ("start", .int start), ("stop", .int stop), ("elders", .ref ea), ("crowd", .int (m : Int)), ("bonds", .ref ba), ("own", .int (own : Int))]
theorem flds_put (ta ea ba : Addr) (start stop : Int) (m own : Nat) : putF "own" (.int (own : Int)) (putF "bonds" (.ref ba) (putF "crowd" (.int (m : Int)) (putF "elders" (.ref ea) (putF "stop" (.int stop) (putF "start" (.int start) (putF "table" (.ref ta) [])))))) = flds ta ea ba start stop m own := by
  kernel_rfl
structure AskIn (K : PySem.W.Frag) (C : Addr) (H : Hp) (p : Addr) (m : Nat) (ts : List Tie) (es : List Nat) (own : Nat) (start stop : Int) (U : Tab) (ta ea ba dx : Addr) (bs : List L2.V) : Prop where
  ob : H p = some (.ins C dx (flds ta ea ba start stop m own))
  tab : TabAt H ta (m + 1) U
  eld : IsNats K H ea es
  bond : H ba = some (.lst bs)
  ties : TiesV K H bs ts
def AskAt (K : PySem.W.Frag) (C : Addr) (H : Hp) (p : Addr) (m : Nat) (ts : List Tie) (es : List Nat) (own : Nat) (start stop : Int) (U : Tab) : Prop := ∃ ta ea ba dx bs, AskIn K C H p m ts es own start stop U ta ea ba dx bs
theorem AskIn.kp {K : PySem.W.Frag} {C : Addr} {H H' : Hp} {p : Addr} {m : Nat} {ts : List Tie} {es : List Nat} {own : Nat} {start stop : Int} {U : Tab} {ta ea ba dx : Addr} {bs : List L2.V} (a : AskIn K C H p m ts es own start stop U ta ea ba dx bs) (e : Kp H H') :
    AskIn K C H' p m ts es own start stop U ta ea ba dx bs := ⟨e _ _ a.ob (fun ps z => by cases z), a.tab.kp e, e.l a.eld, e _ _ a.bond (fun ps z => by cases z), a.ties.kp e⟩
theorem AskAt.kp {K : PySem.W.Frag} {C : Addr} {H H' : Hp} {p : Addr} {m : Nat} {ts : List Tie} {es : List Nat} {own : Nat} {start stop : Int} {U : Tab} (a : AskAt K C H p m ts es own start stop U) (e : Kp H H') : AskAt K C H' p m ts es own start stop U := by
  obtain ⟨ta, ea, ba, dx, bs, a⟩ := a
  exact ⟨ta, ea, ba, dx, bs, a.kp e⟩
/-- the class as the top has made it -/
structure Ak (K : PySem.W.Frag) (C : Addr) : Prop where
  cl : Cls K C
  nTable : NoAttr K C "table"
  nStart : NoAttr K C "start"
  nStop : NoAttr K C "stop"
  nElders : NoAttr K C "elders"
  nCrowd : NoAttr K C "crowd"
  nBonds : NoAttr K C "bonds"
  nOwn : NoAttr K C "own"
theorem cut_to {xs : List L2.V} {k : Nat} (h : k ≤ xs.length) : cutV xs none (some (k : Int)) = xs.take k := by
  unfold cutV
  rw [HT.sIx_nat, Nat.min_eq_left h]
  have e1 : HT.sIx xs.length 0 none = 0 := rfl
  rw [e1, List.drop_zero, Nat.sub_zero]
theorem natV_take (a b : List Nat) : (natV (a ++ b)).take a.length = natV a := by
  rw [natV_app, List.take_append_of_le_length (by rw [natV_len]; exact Nat.le_refl _), List.take_of_length_le (by rw [natV_len]; exact Nat.le_refl _)]
section
variable {P : Program} {w : World} {K : PySem.W.Frag} {mg : Str → Option Value} {base : Heap}
def sp_init (K : PySem.W.Frag) (C : Addr) : Sp := fun vs H Q _ => ∃ (H0 : Hp) (p dx ta ra ru : Addr) (m : Nat) (ts : List Tie) (es rest : List Nat) (own : Nat) (start : Int) (e : Option Int) (U : Tab),
  vs = [.ref p, .int (m : Int), .ref ta, .ref ra, .int (own : Int), .ref ru] ∧ Ex H0 H ∧ H0 p = none ∧ H p = some (.ins C dx []) ∧ 1 ≤ m ∧ m ≤ 10 ∧ ts.length ≤ 80 ∧ IsTies K H0 ta ts ∧ (∀ t ∈ ts, OkTie m t) ∧
  IsNats K H0 ra (es ++ own :: rest) ∧ OkRow m (es ++ own :: rest) ∧ own ∉ es ∧ SqT K H0 ru [.int start, optV e] ∧ Run start e ∧ tableOf m ts = some U ∧ ∀ H', Ex H0 H' → AskAt K C H' p m ts es own start (untilOf e) U → Q .non H'
theorem b_init {C : Addr} (G : Gs mg) (T : Ak K C) {k : Nat} (C1 : C8.Cal P w K mg base k "need_ties" (sp_need_ties K) []) (C2 : C8.Cal P w K mg base k "need_table" (sp_need_table K) []) (C3 : C8.Cal P w K mg base k "need_row" (sp_need_row K) [])
    (C4 : C8.Cal P w K mg base k "need_run" sp_need_run []) (C5 : C8.Cal P w K mg base k "need_in" (sp_need_in K) []) {j : Nat} (hk : k ≤ j) : Body P w K mg base j "Asked.__init__" s_init n_init (sp_init K C) := by
  rintro f cdv A outer s H vs Q E hr ⟨H0, p, dx, ta, ra, ru, m, ts, es, rest, own, start, e, U, rfl, e0, fp, hp, m0, m1, hl, ht, hO, hrow, oR, hn, hru, R, hU, q⟩
  have nd' := sc_init.nd
  refine ⟨_, pss_cons (ps_expr (C8.pe_c C1 hr hk rfl (pa_cons (pv 1) (pa_cons (pv 2) pa_nil))))
    (pss_cons (ps_fld (pv 0) (C8.pe_c C2 hr hk rfl (pa_cons (pv 1) (pa_cons (pv 2) pa_nil))) rfl)
    (pss_cons (ps_expr (C8.pe_c C3 hr hk rfl (pa_cons (pv 1) (pa_cons (pv 3) pa_nil))))
    (pss_cons (ps_asg (pv 5) (pg_tup rfl (pgs_cons (pg_fld (pv 0)) (pgs_cons (pg_name (i := 6) nd' rfl (.inl rfl)) pgs_nil))))
    (pss_cons (ps_fld (pv 0) (C8.pe_c C4 hr hk rfl (pa_cons (pe_fld (pv 0) rfl) (pa_cons (pv 6) pa_nil))) rfl)
    (pss_cons (ps_fld (pv 0) (pe_callTy call_list_of rfl G.list PyProof.Rows.boot_list (pa_cons (pe_slice sl_list (pv 3) po_none (po_some (C8.pe_c C5 hr hk rfl (pa_cons (pv 3) (pa_cons (pv 4) pa_nil))))) pa_nil)) rfl)
    (pss_cons (ps_fld (pv 0) (pv 1) rfl)
    (pss_cons (ps_fld (pv 0) (pe_callTy call_list_of rfl G.list PyProof.Rows.boot_list (pa_cons (pv 2) pa_nil)) rfl)
    (pss_one (ps_fld (pv 0) (pv 4) rfl))))))))), ?_⟩
  have len : ∀ fs : List (Str × L2.V), fs.length ≤ 10 → fs.length < 1000 := fun fs h => by omega
  -- need_ties; self.table
  refine ⟨_, rfl, _, rfl, m, ta, ts, rfl, m0, m1, hl, ht.kp (Kp.of e0), hO, ?_⟩
  refine ⟨_, rfl, _, rfl, m, ta, ts, U, rfl, m1, ht.kp (Kp.of e0), fun t h => (hO t h).g, hU, fun tb H1 e1 fb t1 => ?_⟩
  refine ⟨_, rfl, p, C, dx, _, rfl, e1 _ _ hp, T.cl, T.nTable, by show 0 < 1000; decide, ?_⟩
  have x1 : Ex H0 (upd H1 p (.ins C dx (putF "table" (.ref tb) []))) := Ex.mut (e0.trans e1) fp
  have npt : tb ≠ p := fun z => by
    rw [z, hp] at fb
    cases fb
  have t1' : TabAt (upd H1 p (.ins C dx (putF "table" (.ref tb) []))) tb (m + 1) U := by
    obtain ⟨rows, t⟩ := t1
    refine ⟨rows, by rw [upd_ne npt]; exact t.at_, t.len, fun i r h => ?_⟩
    have h2 := t.row i r h
    have nr : r ≠ p := fun z => by
      rw [z, e1 _ _ hp] at h2
      cases h2
    rw [upd_ne nr]
    exact h2
  generalize hH1 : upd H1 p (.ins C dx (putF "table" (.ref tb) [])) = G1 at x1 t1'
  have o1 : G1 p = some (.ins C dx (putF "table" (.ref tb) [])) := by rw [← hH1, upd_same]
  -- need_row; self.start, end = run
  refine ⟨_, rfl, _, rfl, m, ra, _, rfl, ex_l x1 hrow, oR, ?_⟩
  refine ⟨_, rfl, ru, _, rfl, ex_t x1 hru, rfl, _, _, rfl, _, rfl, p, C, dx, _, rfl, o1, T.cl, T.nStart, (by show 1 < 1000; decide), _, _, rfl, rfl, ?_⟩
  have tabU : ∀ {G : Hp} {fs gs : List (Str × L2.V)}, G p = some (.ins C dx fs) → TabAt G tb (m + 1) U → TabAt (upd G p (.ins C dx gs)) tb (m + 1) U := fun {G fs gs} o t => by
    obtain ⟨rows, t⟩ := t
    refine ⟨rows, by rw [upd_ne npt]; exact t.at_, t.len, fun i r h => ?_⟩
    have h2 := t.row i r h
    have nr : r ≠ p := fun z => by
      rw [z, o] at h2
      cases h2
    rw [upd_ne nr]
    exact h2
  have x2 : Ex H0 (upd G1 p (.ins C dx (putF "start" (.int start) (putF "table" (.ref tb) [])))) := Ex.mut x1 fp
  have t2 := tabU (gs := putF "start" (.int start) (putF "table" (.ref tb) [])) o1 t1'
  generalize hG2 : upd G1 p (.ins C dx (putF "start" (.int start) (putF "table" (.ref tb) []))) = G2 at x2 t2
  have o2 : G2 p = some (.ins C dx (putF "start" (.int start) (putF "table" (.ref tb) []))) := by rw [← hG2, upd_same]
  -- self.stop = need_run(self.start, end)
  refine ⟨_, rfl, p, C, dx, _, _, rfl, o2, T.cl, T.nStart, rfl, _, rfl, start, e, rfl, R, ?_⟩
  refine ⟨_, rfl, p, C, dx, _, rfl, o2, T.cl, T.nStop, (by show 2 < 1000; decide), ?_⟩
  have x3 : Ex H0 (upd G2 p (.ins C dx (putF "stop" (.int (untilOf e)) (putF "start" (.int start) (putF "table" (.ref tb) []))))) := Ex.mut x2 fp
  have t3 := tabU (gs := putF "stop" (.int (untilOf e)) (putF "start" (.int start) (putF "table" (.ref tb) []))) o2 t2
  generalize hG3 : upd G2 p (.ins C dx (putF "stop" (.int (untilOf e)) (putF "start" (.int start) (putF "table" (.ref tb) [])))) = G3 at x3 t3
  have o3 : G3 p = some (.ins C dx (putF "stop" (.int (untilOf e)) (putF "start" (.int start) (putF "table" (.ref tb) [])))) := by rw [← hG3, upd_same]
  -- self.elders = list(row[:need_in(row, own)])
  refine ⟨_, rfl, _, rfl, _, rfl, ra, es, rest, own, rfl, ex_l x3 hrow, hn, _, rfl, ra, _, rfl, ex_l x3 hrow, fun c hc => ?_⟩
  refine ⟨c, _, rfl, .inl (sq_of upd_same), fun d hd => ?_⟩
  have x4 : Ex G3 (upd (upd G3 c (.lst (cutV (natV (es ++ own :: rest)) none (some (es.length : Int))))) d (.lst (cutV (natV (es ++ own :: rest)) none (some (es.length : Int))))) := (Ex.new hc).trans (Ex.new hd)
  have ecut : cutV (natV (es ++ own :: rest)) none (some (es.length : Int)) = natV es := by
    rw [cut_to (by rw [natV_len, List.length_append]; omega), natV_take]
  rw [ecut] at x4 hd
  rw [ecut]
  have l4 : upd (upd G3 c (.lst (natV es))) d (.lst (natV es)) d = some (.lst (natV es)) := upd_same
  have fd : G3 d = none := fresh_back (Ex.new hc) hd
  generalize upd (upd G3 c (.lst (natV es))) d (.lst (natV es)) = G4 at x4 l4
  have o4 := x4 _ _ o3
  refine ⟨_, rfl, p, C, dx, _, rfl, o4, T.cl, T.nElders, (by show 3 < 1000; decide), ?_⟩
  have npd : d ≠ p := fun z => by
    rw [z, o3] at fd
    cases fd
  have x5 : Ex H0 (upd G4 p (.ins C dx (putF "elders" (.ref d) (putF "stop" (.int (untilOf e)) (putF "start" (.int start) (putF "table" (.ref tb) [])))))) := Ex.mut (x3.trans x4) fp
  have t5 := tabU (gs := putF "elders" (.ref d) (putF "stop" (.int (untilOf e)) (putF "start" (.int start) (putF "table" (.ref tb) [])))) o4 (t3.kp (Kp.of x4))
  have l5 : upd G4 p (.ins C dx (putF "elders" (.ref d) (putF "stop" (.int (untilOf e)) (putF "start" (.int start) (putF "table" (.ref tb) []))))) d = some (.lst (natV es)) := by rw [upd_ne npd]; exact l4
  generalize hG5 : upd G4 p (.ins C dx (putF "elders" (.ref d) (putF "stop" (.int (untilOf e)) (putF "start" (.int start) (putF "table" (.ref tb) []))))) = G5 at x5 t5 l5
  have o5 : G5 p = some (.ins C dx (putF "elders" (.ref d) (putF "stop" (.int (untilOf e)) (putF "start" (.int start) (putF "table" (.ref tb) []))))) := by rw [← hG5, upd_same]
  -- self.crowd = many
  refine ⟨_, rfl, _, rfl, p, C, dx, _, rfl, o5, T.cl, T.nCrowd, (by show 4 < 1000; decide), ?_⟩
  have x6 : Ex H0 (upd G5 p (.ins C dx (putF "crowd" (.int (m : Int)) (putF "elders" (.ref d) (putF "stop" (.int (untilOf e)) (putF "start" (.int start) (putF "table" (.ref tb) []))))))) := Ex.mut x5 fp
  have t6 := tabU (gs := putF "crowd" (.int (m : Int)) (putF "elders" (.ref d) (putF "stop" (.int (untilOf e)) (putF "start" (.int start) (putF "table" (.ref tb) []))))) o5 t5
  have l6 : upd G5 p (.ins C dx (putF "crowd" (.int (m : Int)) (putF "elders" (.ref d) (putF "stop" (.int (untilOf e)) (putF "start" (.int start) (putF "table" (.ref tb) [])))))) d = some (.lst (natV es)) := by rw [upd_ne npd]; exact l5
  generalize hG6 : upd G5 p (.ins C dx (putF "crowd" (.int (m : Int)) (putF "elders" (.ref d) (putF "stop" (.int (untilOf e)) (putF "start" (.int start) (putF "table" (.ref tb) [])))))) = G6 at x6 t6 l6
  have o6 : G6 p = some (.ins C dx (putF "crowd" (.int (m : Int)) (putF "elders" (.ref d) (putF "stop" (.int (untilOf e)) (putF "start" (.int start) (putF "table" (.ref tb) [])))))) := by rw [← hG6, upd_same]
  -- self.bonds = list(ties); self.own = own
  obtain ⟨us, hu, hts⟩ := ht
  refine ⟨_, rfl, ta, us, rfl, .inl (ex_l x6 hu), fun b hb => ?_⟩
  have x7 : Ex G6 (upd G6 b (.lst us)) := Ex.new hb
  have npb : b ≠ p := fun z => by
    rw [z, o6] at hb
    cases hb
  have ndb : d ≠ b := ne_of_none l6 hb
  refine ⟨_, rfl, p, C, dx, _, rfl, x7 _ _ o6, T.cl, T.nBonds, (by show 5 < 1000; decide), ?_⟩
  refine ⟨_, rfl, _, rfl, p, C, dx, _, rfl, upd_same, T.cl, T.nOwn, (by show 6 < 1000; decide), ?_⟩
  rw [flds_put, upd_upd]
  have x8 : Ex H0 (upd (upd G6 b (.lst us)) p (.ins C dx (flds tb d b start (untilOf e) m own))) := Ex.mut (x6.trans x7) fp
  refine q _ x8 ⟨tb, d, b, dx, us, upd_same, tabU (x7 _ _ o6) (t6.kp (Kp.of x7)), sq_of (by rw [upd_ne npd]; exact x7 _ _ l6), by rw [upd_ne npb, upd_same], TiesV.kp (Kp.of x8) hts⟩
end
end Lh
namespace Lh
open PySem PySem.Spec PyProof.Rows L2 Evl
theorem rv_add {i j : Int} {H : Hp} : RV (rI0 fun i j => .int (i + j)) (.int i) (.int j) H (.int (i + j)) := rv_I0
theorem rv_sub {i j : Int} {H : Hp} : RV (rI0 fun i j => .int (i - j)) (.int i) (.int j) H (.int (i - j)) := rv_I0
/-! ### lists of ties that a display makes -/
def EvTs (K : PySem.W.Frag) (ta : TA) (σ : L2.St) (H : Hp) (ts : List Tie) : Prop := ∀ H1, Ex H H1 → ∀ Q : List L2.V → Hp → Prop, (∀ vs H2, Ex H1 H2 → TiesV K H2 vs ts → Q vs H2) → ta σ H1 Q
section
variable {K : PySem.W.Frag} {σ : L2.St} {H : Hp} {ta tb tc : TE} {tr : TA}
theorem ets_nil : EvTs K tNil σ H [] := fun H1 _ Q q => q [] H1 (Ex.refl H1) .nil
theorem ets_cons {a b c : Int} {ts : List Tie} (ha : Ev ta σ H (.int a)) (hb : Ev tb σ H (.int b)) (hc : Ev tc σ H (.int c)) (hr : EvTs K tr σ H ts) : EvTs K (tCons (tTup (tCons ta (tCons tb (tCons tc tNil)))) tr) σ H ((a, b, c) :: ts) := fun H1 e Q q =>
  eu_tup (ea_cons ha (ea_cons hb (ea_cons hc ea_nil))) (by show 3 ≤ 100000; omega) H1 e _ fun p H2 _ e2 h2 => hr H2 (e.trans e2) _ fun vs H3 e3 h3 => q _ H3 (e2.trans e3) (.cons (IsTie.of (e3 _ _ h2)) h3)
/-- a new list of ties -/
def EvLT (K : PySem.W.Frag) (te : TE) (σ : L2.St) (H : Hp) (ts : List Tie) : Prop := ∀ H1, Ex H H1 → ∀ Q : VK, (∀ p H2 vs, H1 p = none → Ex H1 H2 → H2 p = some (.lst vs) → TiesV K H2 vs ts → Q (.ref p) H2) → te σ H1 Q
theorem elt_lst {ts : List Tie} (h : EvTs K tr σ H ts) (hl : ts.length ≤ 100000) : EvLT K (tLst tr) σ H ts := fun H1 e Q q =>
  h H1 e _ fun vs H2 e2 hv => ⟨sz_of (by rw [hv.length]; exact hl), fun p hp => q p _ vs (fresh_back e2 hp) (e2.trans (Ex.new hp)) upd_same (hv.kp (Kp.of (Ex.new hp)))⟩
end
section
variable {K : PySem.W.Frag} {σ : L2.St} {H : Hp} {te ta : TE} {ts : List Tie} {D : Ends} {tz : TS}
theorem q_asgTs {i : Nat} (h : EvLT K te σ H ts) (k : ∀ p H1 vs, H p = none → Ex H H1 → H1 p = some (.lst vs) → TiesV K H1 vs ts → tz D (σ.set i (some (.ref p))) H1) : tSeq (tAsg te (gName i)) tz D σ H :=
  h H (Ex.refl H) _ fun p H1 vs hp e h1 hv => k p H1 vs hp e h1 hv
theorem s_extTs {l : Addr} {xs : List L2.V} (hl : H l = some (.lst xs)) (ha : Ev ta σ H (.ref l)) (h : EvLT K te σ H ts) (hz : xs.length + ts.length ≤ 100000) (k : ∀ H1 vs, Ex H H1 → TiesV K H1 vs ts → D.nx σ (upd H1 l (.lst (xs ++ vs)))) :
    tDrop (tBM K "list" rExtend ta (tCons te tNil)) D σ H := ha H (Ex.refl H) _ fun H1 e1 => ⟨.inl ⟨rfl, xs, sq_of (e1 l _ hl)⟩, h H1 e1 _ fun b H2 vs _ e2 hb hv =>
  ⟨l, b, xs, vs, rfl, rfl, (e1.trans e2) l _ hl, hb, sz_of (by rw [hv.length]; exact hz), k H2 vs (e1.trans e2) hv⟩⟩
end
theorem IsTie.lst {K : PySem.W.Frag} {H : Hp} {l : Addr} {xs ys : List L2.V} (hl : H l = some (.lst xs)) {v : L2.V} {t : Tie} (h : IsTie K H v t) : IsTie K (upd H l (.lst ys)) v t := by
  obtain ⟨p, rfl, h⟩ := h
  refine ⟨p, rfl, ?_⟩
  rcases h with (h | ⟨o, h⟩) | h
  · exact .inl (.inl (by rw [upd_ne (ne_of h hl (by intro z; cases z))]; exact h))
  · exact .inl (.inr ⟨o, by rw [upd_ne (ne_of h hl (by intro z; cases z))]; exact h⟩)
  · exact .inr h
theorem TiesV.lst {K : PySem.W.Frag} {H : Hp} {l : Addr} {xs ys : List L2.V} (hl : H l = some (.lst xs)) {vs : List L2.V} {ts : List Tie} (h : TiesV K H vs ts) : TiesV K (upd H l (.lst ys)) vs ts := Paired.mono (fun _ _ z => IsTie.lst hl z) h
theorem moreT_len {own : Nat} {start stop c : Int} : ∀ es : List Nat, (moreT es own start stop c).length = 1 + 2 * es.length
  | [] => rfl
  | e :: es => by
    have h := moreT_len (own := own) (start := start) (stop := stop) (c := c) es
    unfold moreT at h ⊢
    simp only [List.length_cons, List.flatMap_cons, List.length_append, List.length_nil] at h ⊢
    omega
theorem moreT_snoc {es : List Nat} {own i e : Nat} {start stop c : Int} (h : es[i]? = some e) : moreT (es.take (i + 1)) own start stop c = moreT (es.take i) own start stop c ++ [((own : Int), (e : Int), c), (-1, (e : Int), c - stop)] := by
  unfold moreT
  rw [List.take_add_one, h, List.flatMap_append]
  rfl
section
variable {P : Program} {w : World} {K : PySem.W.Frag} {mg : Str → Option Value} {base : Heap}
/-! ### with_days -/
def sp_with_days (K : PySem.W.Frag) (C : Addr) : Sp := fun vs H Q _ => ∃ (p : Addr) (m : Nat) (ts : List Tie) (es : List Nat) (own : Nat) (start stop : Int) (U : Tab) (c : Int), vs = [.ref p, .int c] ∧ AskAt K C H p m ts es own start stop U ∧ m ≤ 10 ∧ ts.length ≤ 80 ∧ es.length ≤ 4 ∧
  (∀ t ∈ ts ++ moreT es own start stop c, GoodTie m t) ∧ (tableOf m (ts ++ moreT es own start stop c) = none → ∀ H', Ex H H' → Q .non H') ∧ ∀ V, tableOf m (ts ++ moreT es own start stop c) = some V → ∀ b H', Ex H H' → H b = none → TabAt H' b (m + 1) V → Q (.ref b) H'
theorem b_with_days {C : Addr} (G : Gs mg) (T : Ak K C) {k : Nat} (C1 : C8.Cal P w K mg base k "table_of" (sp_table_of K) []) {j : Nat} (hk : k ≤ j) : Body P w K mg base j "Asked.with_days" s_with_days n_with_days (sp_with_days K C) := by
  rintro f cdv A outer s H vs Q E hr ⟨p, m, ts, es, own, start, stop, U, c, rfl, ⟨ta, ea, ba, dx, bs, a⟩, hm, hl, hes, hg, q0, q1⟩
  have nd' := sc_with_days.nd
  refine ⟨_, pss_cons (ps_set (i := 2) nd' rfl (.inl rfl) (pe_lst (pa_cons (pe_tup (pa_cons (pe_fld (pv 0) rfl) (pa_cons (pe_gi G.beg) (pa_cons (pe_op op_add (pe_fld (pv 0) rfl) (pv 1)) pa_nil)))) pa_nil)))
    (pss_cons (ps_for PassesOwn.never rfl (pi_list (pe_fld (pv 0) rfl)) (pg_name (i := 3) nd' rfl (.inl rfl))
      (pss_one (ps_expr (pe_bm PySem.F.plainAttrs_list PySem.F.slot_list_extend PySem.F.type_list_extend mt_extend (pv 2) (pa_cons (pe_lst
        (pa_cons (pe_tup (pa_cons (pe_fld (pv 0) rfl) (pa_cons (pv 3) (pa_cons (pv 1) pa_nil)))) (pa_cons (pe_tup (pa_cons (pe_gi G.beg) (pa_cons (pv 3) (pa_cons (pe_op op_sub (pv 1) (pe_fld (pv 0) rfl)) pa_nil)))) pa_nil))) pa_nil)))))
    (pss_one (ps_ret (C8.pe_c C1 hr hk rfl (pa_cons (pe_fld (pv 0) rfl) (pa_cons (pe_op op_cat (pe_fld (pv 0) rfl) (pv 2)) pa_nil)))))), ?_⟩
  have fld : ∀ {σ : L2.St} {H' : Hp} {x : Str} {v : L2.V}, σ[0]? = some (some (.ref p)) → Ex H H' → NoAttr K C x → (flds ta ea ba start stop m own).lookup x = some v → Ev (tFld K (tVar 0) x) σ H' v := fun hσ e n l H1 e1 Q' q' => ⟨_, hσ, p, C, dx, _, _, rfl, (e.trans e1) _ _ a.ob, T.cl, n, l, q' H1 (Ex.refl H1)⟩
  -- more = [..]
  refine q_asgTs (K := K) (ts := [((own : Int), -1, start + c)]) (elt_lst (ets_cons (fld rfl (Ex.refl H) T.nOwn rfl) ev_c (ev_op (fld rfl (Ex.refl H) T.nStart rfl) (ev_var rfl) rv_add) ets_nil) (by show 1 ≤ 100000; omega)) fun mo H1 vs fm e1 h1 hv => ?_
  -- the loop
  refine q_forL (K := K) (a := ea) (xs := natV es) (fld rfl e1 T.nElders rfl) (ex_l e1 a.eld) (fun i σ' H' => ∃ (x3 : Option L2.V) (vs : List L2.V), σ' = [some (.ref p), some (.int c), some (.ref mo), x3] ∧ Ex H H' ∧ H' mo = some (.lst vs) ∧ TiesV K H' vs (moreT (es.take i) own start stop c)) ?_ ?_ ?_ ?_
  · intro H2 e2
    exact ⟨_, vs, rfl, e1.trans e2, e2 _ _ h1, hv.kp (Kp.of e2)⟩
  · rintro i σ' H' _ ⟨_, _, _, ee, _⟩
    exact ex_l ee a.eld
  · rintro i x σ' H' hx ⟨x3, vs, rfl, ee, h2, hv⟩
    obtain ⟨e, he, rfl⟩ := natV_get hx
    have hi : i < es.length := (List.getElem?_eq_some_iff.mp he).1
    have lv : vs.length ≤ 9 := by
      rw [hv.length, moreT_len, List.length_take]
      omega
    refine s_extTs (K := K) (ts := [((own : Int), (e : Int), c), (-1, (e : Int), c - stop)]) h2 (ev_var rfl) (elt_lst (ets_cons (fld rfl ee T.nOwn rfl) (ev_var rfl) (ev_var rfl) (ets_cons ev_c (ev_var rfl) (ev_op (ev_var rfl) (fld rfl ee T.nStop rfl) rv_sub) ets_nil)) (by show 2 ≤ 100000; omega)) (by show vs.length + 2 ≤ 100000; omega) fun H2 zs e2 hz => ?_
    refine ⟨_, vs ++ zs, rfl, Ex.mut (ee.trans e2) fm, upd_same, ?_⟩
    rw [moreT_snoc he]
    exact TiesV.lst (e2 _ _ h2) (paired_app (hv.kp (Kp.of e2)) hz)
  · rintro σ' H' ⟨x3, vs, rfl, ee, h2, hv⟩
    rw [natV_len, List.take_of_length_le (Nat.le_refl _)] at hv
    have lv : vs.length ≤ 9 := by
      rw [hv.length, moreT_len]
      omega
    have lb : bs.length = ts.length := a.ties.length
    refine ⟨_, rfl, p, C, dx, _, _, rfl, ee _ _ a.ob, T.cl, T.nCrowd, rfl, _, rfl, p, C, dx, _, _, rfl, ee _ _ a.ob, T.cl, T.nBonds, rfl, _, rfl, ba, mo, bs, vs, rfl, rfl, ee _ _ a.bond, h2, sz_of (by omega), fun b hb => ?_⟩
    have e4 : Ex H (upd H' b (.lst (bs ++ vs))) := ee.trans (Ex.new hb)
    refine ⟨m, b, ts ++ moreT es own start stop c, rfl, hm, ⟨bs ++ vs, sq_of upd_same, paired_app (a.ties.kp (Kp.of e4)) (hv.kp (Kp.of (Ex.new hb)))⟩, hg, fun h H5 e5 => q0 h H5 (e4.trans e5), fun V hV d H5 e5 fd t => q1 V hV d H5 (e4.trans e5) (fresh_back e4 fd) t⟩
/-! ### longest -/
def sp_longest (K : PySem.W.Frag) (C : Addr) : Sp := fun vs H Q _ => ∃ (p : Addr) (m : Nat) (ts : List Tie) (es : List Nat) (own : Nat) (start stop : Int) (U : Tab), vs = [.ref p] ∧ AskAt K C H p m ts es own start stop U ∧ m ≤ 10 ∧ ts.length ≤ 80 ∧ es.length ≤ 4 ∧
  (∀ c, ∀ t ∈ ts ++ moreT es own start stop c, GoodTie m t) ∧ start < stop ∧ stop - start ≤ 10000 ∧
  ∀ z H', Ex H H' → 0 ≤ z → z ≤ stop - start → (0 < z → ∃ V, tableOf m (ts ++ moreT es own start stop z) = some V) → (z < stop - start → tableOf m (ts ++ moreT es own start stop (z + 1)) = none) → Q (.int z) H'
theorem b_longest {C : Addr} (T : Ak K C) {k : Nat} (C1 : C8.Met P w K mg base k C "with_days" (sp_with_days K C) []) {j : Nat} (hk : k ≤ j) : Body P w K mg base j "Asked.longest" s_longest n_longest (sp_longest K C) := by
  rintro f cdv A outer s H vs Q E hr ⟨p, m, ts, es, own, start, stop, U, rfl, ⟨ta, ea, ba, dx, bs, a⟩, hm, hl, hes, hg, hss, hbig, q⟩
  have nd' := sc_longest.nd
  refine ⟨_, pss_cons (ps_set (i := 1) nd' rfl (.inl rfl) pe_int) (pss_cons (ps_set (i := 2) nd' rfl (.inl rfl) (pe_op op_sub (pe_fld (pv 0) rfl) (pe_fld (pv 0) rfl)))
    (pss_cons (ps_while PassesOwn.never (pt_cmpR op_lt (pv 1) (pv 2) (nomark _))
      (pss_cons (ps_set (i := 3) nd' rfl (.inl rfl) (pe_op op_fdiv (pe_op op_add (pe_op op_add (pv 1) (pv 2)) pe_int) pe_int))
      (pss_one (ps_if (pt_cmpR op_isN (C8.pe_mt C1 hr hk (pv 0) (pa_cons (pv 3) pa_nil)) pe_non (nomark _)) (pss_one (ps_set (i := 2) nd' rfl (.inl rfl) (pe_op op_sub (pv 3) pe_int))) (pss_one (ps_set (i := 1) nd' rfl (.inl rfl) (pv 3)))))))
    (pss_one (ps_ret (pv 1))))), ?_⟩
  have fld : ∀ {σ : L2.St} {H' : Hp} {x : Str} {v : L2.V}, σ[0]? = some (some (.ref p)) → Ex H H' → NoAttr K C x → (flds ta ea ba start stop m own).lookup x = some v → Ev (tFld K (tVar 0) x) σ H' v := fun hσ e n l H1 e1 Q' q' => ⟨_, hσ, p, C, dx, _, _, rfl, (e.trans e1) _ _ a.ob, T.cl, n, l, q' H1 (Ex.refl H1)⟩
  refine q_asg ev_c fun H1 e1 => q_asg (ev_op (fld rfl e1 T.nStop rfl) (fld rfl e1 T.nStart rfl) rv_I0) fun H2 e2 => ?_
  refine q_while (fun n σ' H' => ∃ (x3 : Option L2.V) (low high : Int), σ' = [some (.ref p), some (.int low), some (.int high), x3] ∧ Ex H H' ∧ (n : Int) = high - low ∧ 0 ≤ low ∧ low ≤ high ∧ high ≤ stop - start ∧
    (0 < low → ∃ V, tableOf m (ts ++ moreT es own start stop low) = some V) ∧ (high < stop - start → tableOf m (ts ++ moreT es own start stop (high + 1)) = none)) (stop - start).toNat
    ⟨_, 0, stop - start, rfl, e1.trans e2, by omega, by omega, by omega, by omega, fun h => absurd h (by omega), fun h => absurd h (by omega)⟩ ?_
  rintro n σ' H' ⟨x3, low, high, rfl, ee, hn, h0, h1, h2, hlo, hhi⟩
  refine ⟨_, et_test (ev_op (ev_var rfl) (ev_var rfl) rv_I0), fun hb H3 e3 => ?_, fun hb H3 e3 => ?_⟩
  · have hlt : low < high := of_decide_eq_true hb
    refine ⟨fun σ2 H2 => ∃ (x3 : Option L2.V) (low' high' : Int), σ2 = [some (.ref p), some (.int low'), some (.int high'), x3] ∧ Ex H H2 ∧ high' - low' < high - low ∧ 0 ≤ low' ∧ low' ≤ high' ∧ high' ≤ stop - start ∧
      (0 < low' → ∃ V, tableOf m (ts ++ moreT es own start stop low') = some V) ∧ (high' < stop - start → tableOf m (ts ++ moreT es own start stop (high' + 1)) = none), ?_, ?_⟩
    · rintro σ2 H2 ⟨x3, low', high', rfl, ee', hd, h0', h1', h2', hlo', hhi'⟩
      exact ⟨(high' - low').toNat, by omega, x3, low', high', rfl, ee', by omega, h0', h1', h2', hlo', hhi'⟩
    · refine q_asg (v := .int ((low + high + 1) / 2)) (ev_op (ev_op (ev_op (ev_var rfl) (ev_var rfl) rv_I0) ev_c rv_I0) ev_c (rv_I ⟨by decide, by decide⟩)) fun H4 e4 => ?_
      have eeH4 := ee.trans (e3.trans e4)
      generalize hmid : (low + high + 1) / 2 = mid
      have hm1 : low < mid := by omega
      have hm2 : mid ≤ high := by omega
      have hw : AskAt K C H4 p m ts es own start stop U := ⟨ta, ea, ba, dx, bs, a.kp (Kp.of eeH4)⟩
      cases hT : tableOf m (ts ++ moreT es own start stop mid) with
      | none =>
        refine ⟨_, rfl, p, dx, _, rfl, eeH4 _ _ a.ob, rfl, _, rfl, p, m, ts, es, own, start, stop, U, mid, rfl, hw, hm, hl, hes, hg mid, fun _ H5 e5 => ⟨rfl, _, rfl, ifT rfl ?_⟩, fun V hV => ?_⟩
        · exact ⟨_, rfl, _, _, rfl, rfl, _, low, mid - 1, rfl, eeH4.trans e5, by omega, h0, by omega, by omega, hlo, fun _ => by rw [show mid - 1 + 1 = mid by omega]; exact hT⟩
        · rw [hT] at hV
          cases hV
      | some V =>
        refine ⟨_, rfl, p, dx, _, rfl, eeH4 _ _ a.ob, rfl, _, rfl, p, m, ts, es, own, start, stop, U, mid, rfl, hw, hm, hl, hes, hg mid, fun h => ?_, fun V' _ b H5 e5 fb t => ⟨rfl, _, rfl, ifF rfl ?_⟩⟩
        · rw [hT] at h
          cases h
        · exact ⟨_, rfl, _, mid, high, rfl, eeH4.trans e5, by omega, by omega, hm2, h2, fun _ => ⟨V, hT⟩, hhi⟩
  · have hge : ¬ low < high := of_decide_eq_false hb
    have e : low = high := by omega
    subst e
    exact ⟨_, rfl, q low H3 (ee.trans e3) h0 h2 hlo hhi⟩
end
end Lh
namespace Lh
open PySem PySem.Spec PyProof.Rows L2 Evl
/-! ### endings in the heap: pairs of a number and a tie or None -/
def optTie (K : PySem.W.Frag) (H : Hp) (x : L2.V) : Option Tie → Prop
  | none => x = .non
  | some t => IsTie K H x t
def IsEnd (K : PySem.W.Frag) (H : Hp) (v : L2.V) (q : Int × Option Tie) : Prop := ∃ p x, v = .ref p ∧ SqT K H p [.int q.1, x] ∧ optTie K H x q.2
def EndsV (K : PySem.W.Frag) (H : Hp) (vs : List L2.V) (qs : List (Int × Option Tie)) : Prop := Paired (IsEnd K H) vs qs
section
variable {K : PySem.W.Frag} {H H' : Hp}
theorem optTie.kp (e : Kp H H') {x : L2.V} {o : Option Tie} (h : optTie K H x o) : optTie K H' x o := by
  cases o with
  | none => exact h
  | some t => exact IsTie.kp e h
theorem IsEnd.kp (e : Kp H H') {v : L2.V} {q : Int × Option Tie} (h : IsEnd K H v q) : IsEnd K H' v q := by
  obtain ⟨p, x, e1, h1, h2⟩ := h
  exact ⟨p, x, e1, e.t h1, h2.kp e⟩
theorem EndsV.kp (e : Kp H H') {vs : List L2.V} {qs : List (Int × Option Tie)} (h : EndsV K H vs qs) : EndsV K H' vs qs := Paired.mono (fun _ _ z => IsEnd.kp e z) h
theorem sqt_lst {l p : Addr} {xs ys zs : List L2.V} (hl : H l = some (.lst xs)) (h : SqT K H p zs) : SqT K (upd H l (.lst ys)) p zs := by
  rcases h with (h | ⟨o, h⟩) | h
  · exact .inl (.inl (by rw [upd_ne (ne_of h hl (by intro z; cases z))]; exact h))
  · exact .inl (.inr ⟨o, by rw [upd_ne (ne_of h hl (by intro z; cases z))]; exact h⟩)
  · exact .inr h
theorem IsEnd.lst {l : Addr} {xs ys : List L2.V} (hl : H l = some (.lst xs)) {v : L2.V} {q : Int × Option Tie} (h : IsEnd K H v q) : IsEnd K (upd H l (.lst ys)) v q := by
  obtain ⟨p, x, e1, h1, h2⟩ := h
  refine ⟨p, x, e1, sqt_lst hl h1, ?_⟩
  cases e : q.2 with
  | none =>
    rw [e] at h2
    exact h2
  | some t =>
    rw [e] at h2
    exact IsTie.lst hl h2
theorem EndsV.lst {l : Addr} {xs ys : List L2.V} (hl : H l = some (.lst xs)) {vs : List L2.V} {qs : List (Int × Option Tie)} (h : EndsV K H vs qs) : EndsV K (upd H l (.lst ys)) vs qs := Paired.mono (fun _ _ z => IsEnd.lst hl z) h
end
/-! ### such a pair made -/
def EvE (K : PySem.W.Frag) (te : TE) (σ : L2.St) (H : Hp) (q : Int × Option Tie) : Prop := ∀ H1, Ex H H1 → ∀ Q : VK, (∀ v H2, Ex H1 H2 → IsEnd K H2 v q → Q v H2) → te σ H1 Q
section
variable {K : PySem.W.Frag} {σ : L2.St} {H : Hp} {ta tb tc td te to : TE} {D : Ends} {tz : TS}
theorem eve_none {i : Int} (ha : Ev ta σ H (.int i)) : EvE K (tTup (tCons ta (tCons (tC .non) tNil))) σ H (i, none) := fun H1 e Q q =>
  eu_tup (ea_cons ha (ea_cons ev_c ea_nil)) (by show 2 ≤ 100000; omega) H1 e _ fun p H2 _ e2 h2 => q _ H2 e2 ⟨p, .non, rfl, st_of h2, rfl⟩
theorem eve_some {i a b c : Int} (hi : Ev td σ H (.int i)) (ha : Ev ta σ H (.int a)) (hb : Ev tb σ H (.int b)) (hc : Ev tc σ H (.int c)) : EvE K (tTup (tCons td (tCons (tTup (tCons ta (tCons tb (tCons tc tNil)))) tNil))) σ H (i, some (a, b, c)) := fun H1 e Q q =>
  hi H1 e _ fun H2 e2 => eu_tup (ea_cons ha (ea_cons hb (ea_cons hc ea_nil))) (by show 3 ≤ 100000; omega) H2 (e.trans e2) _ fun p H3 _ e3 h3 => ⟨sz_of (by show 2 ≤ 100000; omega), fun p2 hp2 =>
    q _ _ ((e2.trans e3).trans (Ex.new hp2)) ⟨p2, .ref p, rfl, st_of upd_same, p, rfl, .inl (.inl (by rw [upd_ne (ne_of_none h3 hp2)]; exact h3))⟩⟩
/-- found = [e1, e2] -/
theorem q_asgE2 {i : Nat} {q1 q2 : Int × Option Tie} (h1 : EvE K te σ H q1) (h2 : EvE K to σ H q2) (k : ∀ p H1 vs, H p = none → Ex H H1 → H1 p = some (.lst vs) → EndsV K H1 vs [q1, q2] → tz D (σ.set i (some (.ref p))) H1) : tSeq (tAsg (tLst (tCons te (tCons to tNil))) (gName i)) tz D σ H :=
  h1 H (Ex.refl H) _ fun v H1 e1 hv => h2 H1 e1 _ fun u H2 e2 hu => ⟨sz_of (by show 2 ≤ 100000; omega), fun p hp => k p _ [v, u] (fresh_back (e1.trans e2) hp) ((e1.trans e2).trans (Ex.new hp)) upd_same
    (.cons ((hv.kp (Kp.of e2)).kp (Kp.of (Ex.new hp))) (.cons (hu.kp (Kp.of (Ex.new hp))) .nil))⟩
theorem s_appE {l : Addr} {xs : List L2.V} {q : Int × Option Tie} (hl : H l = some (.lst xs)) (ha : Ev ta σ H (.ref l)) (h : EvE K te σ H q) (hz : xs.length < 100000) (k : ∀ H1 v, Ex H H1 → IsEnd K H1 v q → D.nx σ (upd H1 l (.lst (xs ++ [v])))) :
    tDrop (tBM K "list" rAppend ta (tCons te tNil)) D σ H := ha H (Ex.refl H) _ fun H1 e1 => ⟨.inl ⟨rfl, xs, sq_of (e1 l _ hl)⟩, h H1 e1 _ fun v H2 e2 hv => ⟨l, xs, v, rfl, rfl, (e1.trans e2) l _ hl, sz_lt hz, k H2 v (e1.trans e2) hv⟩⟩
theorem q_appE {l : Addr} {xs : List L2.V} {q : Int × Option Tie} (hl : H l = some (.lst xs)) (ha : Ev ta σ H (.ref l)) (h : EvE K te σ H q) (hz : xs.length < 100000) (k : ∀ H1 v, Ex H H1 → IsEnd K H1 v q → tz D σ (upd H1 l (.lst (xs ++ [v])))) :
    tSeq (tDrop (tBM K "list" rAppend ta (tCons te tNil))) tz D σ H := s_appE (D := { D with nx := tz D }) hl ha h hz k
end
theorem endings_snoc {m : Nat} {U : Tab} {es : List Nat} {own i e : Nat} {start stop : Int} (h : es[i]? = some e) : endings m U (es.take (i + 1)) own start stop = endings m U (es.take i) own start stop ++
    [(U own e, some ((e : Int), (own : Int), -(U own e))), (stop + U m e, some ((e : Int), -1, stop - (stop + U m e)))] := by
  unfold endings
  rw [List.take_add_one, h, List.flatMap_append, List.append_assoc]
  rfl
theorem endings_len {m : Nat} {U : Tab} {own : Nat} {start stop : Int} : ∀ es : List Nat, (endings m U es own start stop).length = 2 + 2 * es.length
  | [] => rfl
  | e :: es => by
    have h := endings_len (m := m) (U := U) (own := own) (start := start) (stop := stop) es
    unfold endings at h ⊢
    simp only [List.length_cons, List.flatMap_cons, List.length_append, List.length_nil] at h ⊢
    omega
section
variable {P : Program} {w : World} {K : PySem.W.Frag} {mg : Str → Option Value} {base : Heap}
def sp_endings (K : PySem.W.Frag) (C : Addr) : Sp := fun vs H Q _ => ∃ (p : Addr) (m : Nat) (ts : List Tie) (es : List Nat) (own : Nat) (start stop : Int) (U : Tab), vs = [.ref p] ∧ AskAt K C H p m ts es own start stop U ∧ m ≤ 10 ∧ es.length ≤ 4 ∧ own < m ∧ (∀ e ∈ es, e < m) ∧
  ∀ b H' vs, Ex H H' → H b = none → H' b = some (.lst vs) → EndsV K H' vs (endings m U es own start stop) → Q (.ref b) H'
theorem b_endings {C : Addr} (G : Gs mg) (T : Ak K C) (k : Nat) : Body P w K mg base k "Asked.endings" s_endings n_endings (sp_endings K C) := by
  rintro f cdv A outer s H vs Q E hr ⟨p, m, ts, es, own, start, stop, U, rfl, ⟨ta, ea, ba, dx, bs, a⟩, hm, hes, ho, he, q⟩
  have nd' := sc_endings.nd
  refine ⟨_, pss_cons (ps_set (i := 1) nd' rfl (.inl rfl) (pe_op op_sub (pe_ix ix_list (pe_ix ix_list (pe_fld (pv 0) rfl) (pe_fld (pv 0) rfl) (fun _ _ => rfl)) (pe_gi G.beg) (fun _ _ => rfl)) (pe_fld (pv 0) rfl)))
    (pss_cons (ps_set (i := 2) nd' rfl (.inl rfl) (pe_lst (pa_cons (pe_tup (pa_cons (pe_op op_sub (pe_fld (pv 0) rfl) (pe_fld (pv 0) rfl)) (pa_cons pe_non pa_nil)))
        (pa_cons (pe_tup (pa_cons (pv 1) (pa_cons (pe_tup (pa_cons (pe_gi G.beg) (pa_cons (pe_fld (pv 0) rfl) (pa_cons (pe_op op_sub (pe_un un_neg (pe_fld (pv 0) rfl)) (pv 1)) pa_nil)))) pa_nil))) pa_nil))))
    (pss_cons (ps_for PassesOwn.never rfl (pi_list (pe_fld (pv 0) rfl)) (pg_name (i := 3) nd' rfl (.inl rfl))
      (pss_cons (ps_set (i := 1) nd' rfl (.inl rfl) (pe_ix ix_list (pe_ix ix_list (pe_fld (pv 0) rfl) (pe_fld (pv 0) rfl) (fun _ _ => rfl)) (pv 3) (fun _ _ => rfl)))
      (pss_cons (ps_expr (pe_bm PySem.F.plainAttrs_list PySem.F.slot_list_append PySem.F.type_list_append mt_append (pv 2) (pa_cons (pe_tup (pa_cons (pv 1) (pa_cons (pe_tup (pa_cons (pv 3) (pa_cons (pe_fld (pv 0) rfl) (pa_cons (pe_un un_neg (pv 1)) pa_nil)))) pa_nil))) pa_nil)))
      (pss_cons (ps_set (i := 1) nd' rfl (.inl rfl) (pe_op op_add (pe_fld (pv 0) rfl) (pe_ix ix_list (pe_ix ix_list (pe_fld (pv 0) rfl) (pe_gi G.beg) (fun _ _ => rfl)) (pv 3) (fun _ _ => rfl))))
      (pss_one (ps_expr (pe_bm PySem.F.plainAttrs_list PySem.F.slot_list_append PySem.F.type_list_append mt_append (pv 2) (pa_cons (pe_tup (pa_cons (pv 1) (pa_cons (pe_tup (pa_cons (pv 3) (pa_cons (pe_gi G.beg) (pa_cons (pe_op op_sub (pe_fld (pv 0) rfl) (pv 1)) pa_nil)))) pa_nil))) pa_nil))))))))
    (pss_one (ps_ret (pv 2))))), ?_⟩
  have fld : ∀ {σ : L2.St} {H' : Hp} {x : Str} {v : L2.V}, σ[0]? = some (some (.ref p)) → Ex H H' → NoAttr K C x → (flds ta ea ba start stop m own).lookup x = some v → Ev (tFld K (tVar 0) x) σ H' v := fun hσ e n l H1 e1 Q' q' => ⟨_, hσ, p, C, dx, _, _, rfl, (e.trans e1) _ _ a.ob, T.cl, n, l, q' H1 (Ex.refl H1)⟩
  obtain ⟨rows, t⟩ := a.tab
  have hl : (rows.map L2.V.ref).length = m + 1 := by rw [List.length_map]; exact t.len
  refine q_asg (v := .int (U own m - start)) (ev_op (x := .int (U own m)) ?_ (fld rfl (Ex.refl H) T.nStart rfl) rv_sub) fun H1 e1 => ?_
  · obtain ⟨r, hr, _, hr2, hrow⟩ := t.rowAt (i := own) (by omega)
    exact ev_op (ev_op (fld rfl (Ex.refl H) T.nTable rfl) (fld rfl (Ex.refl H) T.nOwn rfl) (rv_ixL (sq_of t.at_) (atI_nat hr2))) ev_c (rv_ixL (sq_of hrow) (atI_neg1 (rowV_len _ _) (rowV_get (by omega))))
  refine q_asgE2 (K := K) (q1 := (stop - start, none)) (q2 := (U own m - start, some (-1, (own : Int), -start - (U own m - start)))) (eve_none (ev_op (fld rfl e1 T.nStop rfl) (fld rfl e1 T.nStart rfl) rv_sub))
    (eve_some (ev_var rfl) ev_c (fld rfl e1 T.nOwn rfl) (ev_op (ev_un (fld rfl e1 T.nStart rfl) ru_neg) (ev_var rfl) rv_sub)) fun fo H2 vs fo0 e2 h2 hv => ?_
  have ffo : H fo = none := fresh_back e1 fo0
  refine q_forL (K := K) (a := ea) (xs := natV es) (fld rfl (e1.trans e2) T.nElders rfl) (ex_l (e1.trans e2) a.eld) (fun i σ' H' => ∃ (x1 x3 : Option L2.V) (vs : List L2.V), σ' = [some (.ref p), x1, some (.ref fo), x3] ∧ Ex H H' ∧ H' fo = some (.lst vs) ∧ EndsV K H' vs (endings m U (es.take i) own start stop)) ?_ ?_ ?_ ?_
  · intro H3 e3
    exact ⟨_, _, vs, rfl, (e1.trans e2).trans e3, e3 _ _ h2, hv.kp (Kp.of e3)⟩
  · rintro i σ' H' _ ⟨_, _, _, _, ee, _⟩
    exact ex_l ee a.eld
  · rintro i x σ' H' hx ⟨x1, x3, vs, rfl, ee, h2, hv⟩
    obtain ⟨e, hee, rfl⟩ := natV_get hx
    have hi : i < es.length := (List.getElem?_eq_some_iff.mp hee).1
    have hem := he e (List.mem_of_getElem? hee)
    have lv : vs.length ≤ 10 := by
      rw [hv.length, endings_len, List.length_take]
      omega
    obtain ⟨r, hr, _, hr2, hrow⟩ := t.rowAt (i := own) (by omega)
    obtain ⟨r', hr', _, hr2', hrow'⟩ := t.rowAt (i := m) (by omega)
    refine q_asg (v := .int (U own e)) (ev_op (ev_op (fld rfl ee T.nTable rfl) (fld rfl ee T.nOwn rfl) (rv_ixL (sq_of (ee _ _ t.at_)) (atI_nat hr2))) (ev_var rfl) (rv_ixL (sq_of (ee _ _ hrow)) (atI_nat (rowV_get (by omega))))) fun H3 e3 => ?_
    refine q_appE (K := K) (q := (U own e, some ((e : Int), (own : Int), -(U own e)))) (e3 _ _ h2) (ev_var rfl) (eve_some (ev_var rfl) (ev_var rfl) (fld rfl (ee.trans e3) T.nOwn rfl) (ev_un (ev_var rfl) ru_neg)) (by omega) fun H4 v1 e4 hv1 => ?_
    have o4 := (e3.trans e4) _ _ h2
    have ee4 : Ex H (upd H4 fo (.lst (vs ++ [v1]))) := Ex.mut (ee.trans (e3.trans e4)) ffo
    have hv4 : EndsV K (upd H4 fo (.lst (vs ++ [v1]))) (vs ++ [v1]) (endings m U (es.take i) own start stop ++ [(U own e, some ((e : Int), (own : Int), -(U own e)))]) := EndsV.lst o4 (paired_app (hv.kp (Kp.of (e3.trans e4))) (.cons hv1 .nil))
    have h4 : upd H4 fo (.lst (vs ++ [v1])) fo = some (.lst (vs ++ [v1])) := upd_same
    generalize upd H4 fo (.lst (vs ++ [v1])) = G4 at ee4 hv4 h4
    refine q_asg (v := .int (stop + U m e)) (ev_op (fld rfl ee4 T.nStop rfl) (ev_op (ev_op (fld rfl ee4 T.nTable rfl) ev_c (rv_ixL (sq_of (ee4 _ _ t.at_)) (atI_neg1 hl hr2'))) (ev_var rfl) (rv_ixL (sq_of (ee4 _ _ hrow')) (atI_nat (rowV_get (by omega))))) rv_add) fun H5 e5 => ?_
    refine s_appE (K := K) (q := (stop + U m e, some ((e : Int), -1, stop - (stop + U m e)))) (e5 _ _ h4) (ev_var rfl) (eve_some (ev_var rfl) (ev_var rfl) ev_c (ev_op (fld rfl (ee4.trans e5) T.nStop rfl) (ev_var rfl) rv_sub)) (by rw [List.length_append]; simp; omega) fun H6 v2 e6 hv2 => ?_
    refine ⟨_, _, _, rfl, Ex.mut (ee4.trans (e5.trans e6)) ffo, upd_same, ?_⟩
    rw [endings_snoc hee]
    have h7 := paired_app (hv4.kp (Kp.of (e5.trans e6))) (Paired.cons hv2 .nil)
    rw [List.append_assoc (endings m U (es.take i) own start stop)] at h7
    exact EndsV.lst ((e5.trans e6) _ _ h4) h7
  · rintro σ' H' ⟨x1, x3, vs, rfl, ee, h2, hv⟩
    rw [natV_len, List.take_of_length_le (Nat.le_refl _)] at hv
    exact ⟨_, rfl, q fo H' vs ee ffo h2 hv⟩
end
end Lh
namespace Lh
open PySem PySem.Spec PyProof.Rows L2
/-! ### a lambda of one's own parameters, called -/
section
variable {P : Program} {w : World} {K : PySem.W.Frag} {mg : Str → Option Value} {base : Heap}
theorem lam_code {N ps : List Str} {q : Str} {params : Arguments} {body : Expr} {scope : Scope} {pm ctv : Value} {f c' : Addr} {k : Nat} {A : Around} {outer : List Env} {s : Shared} {H : Hp} {us : List Value} {vs : List V} {Q : VK} {tb : TE}
    (S : FnScope N ps scope) (hr : Room (k + 1) A) (e0 : Env0 P w K mg base A outer s H) (hf : s.heap.get? f = some (PySem.W.kla_obj "<lambda>" q params body scope [] pm c' ctv)) (hcd : s.heap.CodeRec (.ref c') q)
    (hb : bindArgs (PySem.W.kla_fn "<lambda>" q params body scope [] pm (.ref c') ctv) ⟨us, []⟩ = pure (ps.zip us)) (r : Vals vs us) (hl : vs.length = ps.length)
    (hbody : Room k (A.deeper (envOfC q scope s.heap.objs.size f (.ref c'))) → PE (cxOf C8.CX0 P w K mg base N q scope f (.ref c') A outer s H C8.E0) body tb) (h : tb (L2.start N vs) H Q) :
    codeAny (model P w) A (.call (.ref f) ⟨us, []⟩) (CR C8.CX0 outer P w H s Q C8.E0) s := by
  have lim : s.heap.NoLimit := e0.mod.nolimit.keeps fun b o e => (e0.bs b o e).1
  have hkind : ∀ y ∈ ps.zip us, scope.names.lookup y.1 = some .local ∨ (scope.names.lookup y.1 = some .cell ∧ ((cellsFrom (s.heap.objs.size + 1) scope.names []).lookup y.1).isSome = true) := fun ⟨n, v⟩ hy => by
    rcases S.par n (List.of_mem_zip hy).1 with q | q
    · exact .inl q
    · exact .inr ⟨q, PySem.W.cellsFrom_some _ _ _ (.inl q)⟩
  refine PySem.W.kla_callFunE hr.depth hf rfl S.co S.gen rfl hcd ?_
  rw [hb]
  refine wpAny_pure (wpAny_newFunctionEnv_cells S.kind hkind fun env he s1 x => ?_)
  subst he
  refine ⟨lim.keeps x.toInCall.keep, ?_⟩
  have I : Inv (cxOf C8.CX0 P w K mg base N q scope f (.ref c') A outer s H C8.E0) [] (L2.start N vs) H s1 := inv_start S hr.hd e0 hl r x
  refine PySem.W.kla_codeExpr (wpAny_mono ((hbody (hr.deeper _)).run [] s1 (L2.start N vs) H Q I h) (fun u s' hq => ?_) fun e s' hq => hq)
  obtain ⟨v, H', J, rv, hQ⟩ := hq
  exact ⟨v, H', J.os, J.bare, J.base, J.hok, rv, hQ⟩
end
end Lh
namespace Lh
open PySem PySem.Spec PyProof.Rows L2
/-! ### min(xs, key=f), f told by its calls -/
section
variable {X : Cx} {pins : List (Addr × Obj)} {σ : L2.St} {H : Hp} {s : Shared}
theorem inv_sub {pins' : List (Addr × Obj)} (J : Inv X pins σ H s) (h : ∀ p ∈ pins', p ∈ pins) : Inv X pins' σ H s := J.pins_of fun p hp => J.pin p (List.mem_append_right _ (h p hp))
theorem inv_pin {pins' : List (Addr × Obj)} {b : Addr} {o : Obj} (J : Inv X pins' σ H s) (h1 : FpOk X pins H b) (hb : s.heap.get? b = some o) (hd : ∀ v, o.data ≠ .cell v) : Inv X ((b, o) :: pins') σ H s :=
  J.pins_of fun p hp => by
    rcases List.mem_cons.mp hp with rfl | hp
    · exact ⟨hb, h1.1, h1.2.1, h1.2.2.1, hd⟩
    · exact J.pin p (List.mem_append_right _ hp)
theorem inv_turn {pins' : List (Addr × Obj)} {b : Addr} {h' : Heap} {t' : Nat} (J : Inv X pins' σ H s) (h1 : FpOk X pins H b) (hp : ∀ p ∈ X.pn ++ pins', p.1 ≠ b) (k : ∀ a o, a ≠ b → s.heap.get? a = some o → h'.get? a = some o) : Inv X pins' σ H { s with heap := h', toks := t' } :=
  J.turned k h1.1 h1.2.1 h1.2.2.2.1 h1.2.2.2.2.1 hp
theorem inv_at {b : Addr} {o : Obj} (J : Inv X pins σ H s) (h : (b, o) ∈ pins) : s.heap.get? b = some o := (J.pin (b, o) (List.mem_append_right _ h)).1
variable {l f I S : Addr} {oF : Obj} {xs : List L2.V} {kf : Nat → Int} {R : Result → Shared → Prop}
/-- the key's calls -/
def KeyTurn (X : Cx) (σ : L2.St) (H : Hp) (f : Addr) (oF : Obj) (xs : List L2.V) (kf : Nat → Int) : Prop := ∀ (i : Nat) (x : L2.V) (v : Value) (pins' : List (Addr × Obj)) (s' : Shared), xs[i]? = some x → RelV x v → Inv X pins' σ H s' → s'.heap.get? f = some oF →
  wpAny (model X.prog X.w) X.A.in1 (call (.ref f) [v]) (EP X pins' σ fun u H' => u = .int (kf i) ∧ H' = H) (fun _ _ => False) s'
theorem min_loop (hh : X.A.handled = none) (hl : SqL X.K H l xs) (hlI : l ≠ I) (hSI : S ≠ I) (hSf : S ≠ f) (hIf : I ≠ f) (fS : FpOk X pins H S) (fI : FpOk X pins H I) (turn : KeyTurn X σ H f oF xs kf)
    (hR : ∀ i x v s', xs[i]? = some x → RelV x v → (∀ j, j < xs.length → kf i ≤ kf j) → Inv X pins σ H s' → R (.ok (.ret v)) s') :
    ∀ (r j i : Nat) (s : Shared) (x : L2.V) (vb : Value) (tb : Tok) (c : Nat) (oI : Obj), xs.length - (j + 1) = r → j + 1 ≤ xs.length → Inv X ((S, seqObj "list" #[vb, .int (kf i) tb] c) :: (I, oI) :: (f, oF) :: pins) σ H s →
      s.heap.IsListIter I l (j + 1) → xs[i]? = some x → RelV x vb → i ≤ j → (∀ j', j' ≤ j → kf i ≤ kf j') → codeAny (model X.prog X.w) X.A (.builtin "min.loop" ⟨[.ref I, .ref f, .ref S], []⟩) R s := by
  have hname : (toString "min" ++ toString ".loop" : String) = "min.loop" := by decide
  have nI : ∀ oS : Obj, ∀ p ∈ X.pn ++ ((S, oS) :: (f, oF) :: pins), p.1 ≠ I := fun oS p hp => by
    rcases List.mem_append.mp hp with hp | hp
    · exact fI.2.2.2.2.2 p (List.mem_append_left _ hp)
    · rcases List.mem_cons.mp hp with rfl | hp
      · exact hSI
      · rcases List.mem_cons.mp hp with rfl | hp
        · exact hIf.symm
        · exact fI.2.2.2.2.2 p (List.mem_append_right _ hp)
  have nS : ∀ oI : Obj, ∀ p ∈ X.pn ++ ((I, oI) :: (f, oF) :: pins), p.1 ≠ S := fun oI p hp => by
    rcases List.mem_append.mp hp with hp | hp
    · exact fS.2.2.2.2.2 p (List.mem_append_left _ hp)
    · rcases List.mem_cons.mp hp with rfl | hp
      · exact hSI.symm
      · rcases List.mem_cons.mp hp with rfl | hp
        · exact hSf.symm
        · exact fS.2.2.2.2.2 p (List.mem_append_right _ hp)
  intro r
  induction r with
  | zero =>
    intro j i s x vb tb c oI hr hj J hit hx rx hij hbest
    have hin : j + 1 = xs.length := by omega
    have gS := inv_at J (.head _)
    obtain ⟨its, rv, hpl, _⟩ := J.list hl
    have W := Walks.list (prog := X.prog) (w := X.w) (A := X.A.in1) hh I l hlI its.toArray
    have hsz : its.toArray.size = xs.length := by rw [List.size_toArray, rv.length]
    refine codeAny_builtin PySem.F.entry_min_loop ?_
    rw [Around.under_plainId PySem.F.plain_min_loop _]
    show wpAny _ X.A.in1 (seqItems? (.ref S) >>= _) _ _ _
    refine wpAny_bind (wpAny_seqItems gS rfl ?_)
    show wpAny _ X.A.in1 (tryCatch (pyNext (.ref I)) _ >>= _) _ _ _
    refine wpAny_bind (wpAny_tryCatch (W.done _ _ _ ⟨by rw [hsz, ← hin]; exact hit, hpl.isList⟩ fun h' tk' hk' => ?_))
    have J1 : Inv X ((S, seqObj "list" #[vb, .int (kf i) tb] c) :: (f, oF) :: pins) σ H { s with heap := h', toks := tk' } :=
      inv_turn (inv_sub J fun p hp => by
        rcases List.mem_cons.mp hp with rfl | hp
        · exact .head _
        · exact .tail _ (.tail _ hp)) fI (nI _) fun b o hb e => hk' b o (fun z => hb (List.mem_singleton.mp z)) e
    have gS1 := inv_at J1 (.head _)
    show wpAny _ X.A.in1 (updateSeq S (fun _ => #[]) >>= _) _ _ _
    refine wpAny_bind ?_
    refine wpAny_updateSeq gS1 rfl (wpAny_bind (wpAny_letGo (wpAny_pure ?_)))
    refine hR i x vb _ hx rx (fun j' hj' => hbest j' (by omega)) ?_
    exact inv_turn (pins := pins) (inv_sub J1 fun p hp => .tail _ (.tail _ hp)) fS fS.2.2.2.2.2 fun b o hb e => ((Heap.SameBut.update h' S (Obj.mapSeq fun _ => (#[] : Array Value))).2 b hb).trans e
  | succ r ih =>
    intro j i s x vb tb c oI hr hj J hit hx rx hij hbest
    have hlt : j + 1 < xs.length := by omega
    have gS := inv_at J (.head _)
    obtain ⟨its, rv, hpl, _⟩ := J.list hl
    have W := Walks.list (prog := X.prog) (w := X.w) (A := X.A.in1) hh I l hlI its.toArray
    have hsz : its.toArray.size = xs.length := by rw [List.size_toArray, rv.length]
    refine codeAny_builtin PySem.F.entry_min_loop ?_
    rw [Around.under_plainId PySem.F.plain_min_loop _]
    show wpAny _ X.A.in1 (seqItems? (.ref S) >>= _) _ _ _
    refine wpAny_bind (wpAny_seqItems gS rfl ?_)
    show wpAny _ X.A.in1 (tryCatch (pyNext (.ref I)) _ >>= _) _ _ _
    refine wpAny_bind (wpAny_tryCatch (W.item (j + 1) _ _ _ (by rw [hsz]; exact hlt) ⟨hit, hpl.isList⟩ fun v h' tk' hP hst' hk' => ?_))
    obtain ⟨x2, hx2⟩ : ∃ x2, xs[j + 1]? = some x2 := ⟨_, List.getElem?_eq_getElem hlt⟩
    obtain ⟨u, hu, ru⟩ := rv.get hx2
    have hv : its[j + 1]? = some v := by simpa using hP
    have euv : u = v := Option.some.inj (hu.symm.trans hv)
    subst euv
    have J1 : Inv X ((S, seqObj "list" #[vb, .int (kf i) tb] c) :: (f, oF) :: pins) σ H { s with heap := h', toks := tk' } :=
      inv_turn (inv_sub J fun p hp => by
        rcases List.mem_cons.mp hp with rfl | hp
        · exact .head _
        · exact .tail _ (.tail _ hp)) fI (nI _) fun b o hb e => hk' b o (fun z => hb (List.mem_singleton.mp z)) e
    obtain ⟨oI', hoI', hoc, hod⟩ := id hst'.1
    have J2 : Inv X ((S, seqObj "list" #[vb, .int (kf i) tb] c) :: (I, oI') :: (f, oF) :: pins) σ H { s with heap := h', toks := tk' } :=
      inv_sub (inv_pin J1 fI hoI' (fun v z => by rw [hod] at z; cases z)) fun p hp => by
        rcases List.mem_cons.mp hp with rfl | hp
        · exact .tail _ (.head _)
        · rcases List.mem_cons.mp hp with rfl | hp
          · exact .head _
          · exact .tail _ (.tail _ hp)
    have gF := inv_at J2 (.tail _ (.tail _ (.head _)))
    show wpAny _ X.A.in1 (tryCatch (holding [u] (call (.ref f) [u])) _ >>= _) _ _ _
    refine wpAny_bind (wpAny_tryCatch (wpAny_holding (wpAny_mono (turn (j + 1) x2 u _ _ hx2 ru J2 gF) (fun y s'' he => ?_) fun _ _ hF => hF.elim)))
    obtain ⟨y', H', J3, ry, ey, eH⟩ := he
    subst ey
    rw [eH] at J3
    obtain ⟨t2, rfl⟩ := ry
    have gS3 := inv_at J3 (.head _)
    have gI3 := inv_at J3 (.tail _ (.head _))
    have hit3 : s''.heap.IsListIter I l (j + 1 + 1) := ⟨oI', gI3, hoc, hod⟩
    show wpAny _ X.A.in1 (tryCatch (holding [u, .int (kf (j + 1)) t2] (richCompare .Lt (.int (kf (j + 1)) t2) (.int (kf i) tb) >>= _)) _ >>= _) _ _ _
    refine wpAny_bind (wpAny_tryCatch (wpAny_holding (wpAny_bind (CmpOf.ints_lt (prog := X.prog) (w := X.w) (A := X.A.in1) (P := fun i v => ∃ t, v = .int (kf i) t) kf (fun i v h => h) (j + 1) i _ _ _ _ _ ⟨t2, rfl⟩ ⟨tb, rfl⟩ ?_))))
    refine wpAny_bind (wpAny_holding (wpAny_truthy_bool ?_))
    refine wpAny_bind (wpAny_letGo (wpAny_pure ?_))
    by_cases hb' : kf (j + 1) < kf i
    · have s1 := Heap.SameBut.update s''.heap S (Obj.mapSeq fun _ => #[u, .int (kf (j + 1)) t2])
      obtain ⟨c2, hc2⟩ : ∃ c2, (s''.heap.update S (Obj.mapSeq fun _ => #[u, .int (kf (j + 1)) t2])).get? S = some (seqObj "list" #[u, .int (kf (j + 1)) t2] c2) := ⟨_, get?_update_seq gS3 fun _ => #[u, .int (kf (j + 1)) t2]⟩
      simp only [hb', decide_true, if_true]
      refine wpAny_bind ?_
      refine wpAny_updateSeq gS3 rfl (wpAny_bind (wpAny_letGo ?_))
      rw [hname]
      have J4 : Inv X ((I, oI') :: (f, oF) :: pins) σ H { s'' with heap := s''.heap.update S (Obj.mapSeq fun _ => #[u, .int (kf (j + 1)) t2]) } :=
        inv_turn (t' := s''.toks) (inv_sub J3 fun p hp => .tail _ hp) fS (nS _) fun b o hb e => (s1.2 b hb).trans e
      have J5 := inv_pin J4 fS hc2 (fun v z => by
        have z' : Data.seq #[u, .int (kf (j + 1)) t2] c2 = Data.cell v := z
        cases z')
      refine wpAny_pure ⟨plainId_quiet PySem.F.plain_min_loop _, ih (j + 1) (j + 1) _ x2 u t2 c2 oI' (by omega) hlt J5 ⟨oI', (s1.2 I hSI.symm).trans gI3, hoc, hod⟩ hx2 ru (Nat.le_refl _) fun j' hj' => ?_⟩
      by_cases e : j' = j + 1
      · subst e
        exact Int.le_refl _
      · have := hbest j' (by omega)
        omega
    · simp only [hb', decide_false, Bool.false_eq_true, if_false]
      refine wpAny_bind (wpAny_letGo ?_)
      rw [hname]
      refine wpAny_pure ⟨plainId_quiet PySem.F.plain_min_loop _, ih (j + 1) i _ x vb tb c oI' (by omega) hlt J3 hit3 hx rx (by omega) fun j' hj' => ?_⟩
      by_cases e : j' = j + 1
      · subst e
        omega
      · exact hbest j' (by omega)
end
end Lh
namespace Lh
open PySem PySem.Spec PyProof.Rows L2
section
variable {X : Cx} {pins : List (Addr × Obj)} {σ : L2.St} {H : Hp} {s : Shared} {l f : Addr} {oF : Obj} {xs : List L2.V} {kf : Nat → Int} {Q : Value → Shared → Prop} {E : Value → Shared → Prop}
theorem min_key (hh : X.A.handled = none) (J : Inv X ((f, oF) :: pins) σ H s) (hl : SqL X.K H l xs) (hne : 0 < xs.length) (turn : KeyTurn X σ H f oF xs kf)
    (hQ : ∀ i x v s', xs[i]? = some x → RelV x v → (∀ j, j < xs.length → kf i ≤ kf j) → Inv X pins σ H s' → Q v s') :
    wpAny (model X.prog X.w) X.A (call (.builtin "min") [.ref l] [(Str.ofString "key", .ref f)]) Q E s := by
  have hname : (toString "min" ++ toString ".loop" : String) = "min.loop" := by decide
  obtain ⟨its0, rv0, hpl0, _⟩ := J.list hl
  have hls := hpl0.isList
  obtain ⟨ol, hol, _⟩ := id hls
  have gF0 := inv_at J (.head _)
  have hll : l < s.heap.objs.size := Heap.lt_size hol
  have hff : f < s.heap.objs.size := Heap.lt_size gF0
  refine kmk_tree PySem.F.kind_min PySem.F.plain_min PySem.F.entry_min (kmk_min_key _ _) ?_
  show wpAny _ X.A.in1 (Builtin.Builtins.bindParams "min" ["key", "default"] 0 ⟨[], [(Str.ofString "key", .ref f)]⟩ >>= _) _ _ s
  refine wpAny_bind (wpAny_of_eq (show Builtin.Builtins.bindParams "min" ["key", "default"] 0 ⟨[], [(Str.ofString "key", .ref f)]⟩ = pure [some (.ref f), none] from rfl) ?_)
  refine wpAny_bind (wpAny_pure ?_)
  refine wpAny_bind (wpAny_pyIter_list hls ?_)
  refine wpAny_bind (wpAny_newList ?_ (Nat.zero_le _))
  rw [hname]
  generalize hI : s.heap.objs.size = I at hll hff
  have hSz : (s.heap.push { cls := .type "list_iterator", data := .fields #[.ref l, .int 0 0] }).objs.size = I + 1 := by rw [← hI]; exact size_push' ..
  have fI : FpOk X pins H I := (inv_sub J fun p hp => .tail _ hp).fpOk (Nat.le_of_eq hI) (J.hok.fresh (Nat.le_of_eq hI))
  have fS : FpOk X pins H (I + 1) := (inv_sub J fun p hp => .tail _ hp).fpOk (by rw [hI]; exact Nat.le_succ _) (J.hok.fresh (by rw [hI]; exact Nat.le_succ _))
  have gI : ((s.heap.push { cls := .type "list_iterator", data := .fields #[.ref l, .int 0 0] }).push (seqObj "list" #[] 0)).get? I = some { cls := .type "list_iterator", data := .fields #[.ref l, .int 0 0] } :=
    Heap.get?_push_of_some _ (by rw [← hI]; exact Heap.get?_push_size _ rfl)
  have gS : ((s.heap.push { cls := .type "list_iterator", data := .fields #[.ref l, .int 0 0] }).push (seqObj "list" #[] 0)).get? (I + 1) = some (seqObj "list" #[] 0) := by rw [← hSz]; exact Heap.get?_push_size _ rfl
  have kept : ∀ b o, s.heap.get? b = some o → ((s.heap.push { cls := .type "list_iterator", data := .fields #[.ref l, .int 0 0] }).push (seqObj "list" #[] 0)).get? b = some o := fun b o e => Heap.get?_push_of_some _ (Heap.get?_push_of_some _ e)
  have J0 : Inv X ((f, oF) :: pins) σ H { s with heap := (s.heap.push { cls := .type "list_iterator", data := .fields #[.ref l, .int 0 0] }).push (seqObj "list" #[] 0) } := J.kept (t' := s.toks) kept
  rw [hSz]
  have hlI : l ≠ I := Nat.ne_of_lt hll
  have hSI : I + 1 ≠ I := by omega
  have hSf : I + 1 ≠ f := (Nat.ne_of_lt (Nat.lt_succ_of_lt hff)).symm
  have hIf : I ≠ f := (Nat.ne_of_lt hff).symm
  generalize hG : (s.heap.push { cls := .type "list_iterator", data := .fields #[.ref l, .int 0 0] }).push (seqObj "list" #[] 0) = G at gI gS kept J0
  have nI : ∀ oS : Obj, ∀ p ∈ X.pn ++ ((I + 1, oS) :: (f, oF) :: pins), p.1 ≠ I := fun oS p hp => by
    rcases List.mem_append.mp hp with hp | hp
    · exact fI.2.2.2.2.2 p (List.mem_append_left _ hp)
    · rcases List.mem_cons.mp hp with rfl | hp
      · exact hSI
      · rcases List.mem_cons.mp hp with rfl | hp
        · exact hIf.symm
        · exact fI.2.2.2.2.2 p (List.mem_append_right _ hp)
  have nS : ∀ oI : Obj, ∀ p ∈ X.pn ++ ((I, oI) :: (f, oF) :: pins), p.1 ≠ I + 1 := fun oI p hp => by
    rcases List.mem_append.mp hp with hp | hp
    · exact fS.2.2.2.2.2 p (List.mem_append_left _ hp)
    · rcases List.mem_cons.mp hp with rfl | hp
      · exact hSI.symm
      · rcases List.mem_cons.mp hp with rfl | hp
        · exact hSf.symm
        · exact fS.2.2.2.2.2 p (List.mem_append_right _ hp)
  have noCell : ∀ (a : Array Value) (n : Nat) (v : Option Value), (seqObj "list" a n).data ≠ .cell v := fun a n v z => by
    have z' : Data.seq a n = Data.cell v := z
    cases z'
  refine wpAny_pure ⟨plainId_quiet PySem.F.plain_min_loop _, ?_⟩
  obtain ⟨its, rv, hpl, _⟩ := J0.list hl
  have W := Walks.list (prog := X.prog) (w := X.w) (A := X.A.in1) hh I l hlI its.toArray
  have hsz : its.toArray.size = xs.length := by rw [List.size_toArray, rv.length]
  refine codeAny_builtin PySem.F.entry_min_loop ?_
  rw [Around.under_plainId PySem.F.plain_min_loop _]
  show wpAny _ X.A.in1 (seqItems? (.ref (I + 1)) >>= _) _ _ _
  refine wpAny_bind (wpAny_seqItems gS rfl ?_)
  show wpAny _ X.A.in1 (tryCatch (pyNext (.ref I)) _ >>= _) _ _ _
  refine wpAny_bind (wpAny_tryCatch (W.item 0 _ _ _ (by rw [hsz]; exact hne) ⟨⟨_, gI, rfl, rfl⟩, hpl.isList⟩ fun v h' tk' hP hst' hk' => ?_))
  obtain ⟨x0, hx0⟩ : ∃ x, xs[0]? = some x := ⟨_, List.getElem?_eq_getElem hne⟩
  obtain ⟨u, hu, ru⟩ := rv.get hx0
  have hv : its[0]? = some v := by simpa using hP
  have euv : u = v := Option.some.inj (hu.symm.trans hv)
  subst euv
  obtain ⟨oI', hoI', hoc, hod⟩ := id hst'.1
  have J1 : Inv X ((I + 1, seqObj "list" #[] 0) :: (f, oF) :: pins) σ H { s with heap := h', toks := tk' } :=
    inv_turn (s := { s with heap := G }) (inv_pin J0 fS gS (noCell _ _)) fI (nI _) fun b o hb e => hk' b o (fun z => hb (List.mem_singleton.mp z)) e
  have J2 : Inv X ((I + 1, seqObj "list" #[] 0) :: (I, oI') :: (f, oF) :: pins) σ H { s with heap := h', toks := tk' } :=
    inv_sub (inv_pin J1 fI hoI' (fun v z => by rw [hod] at z; cases z)) fun p hp => by
      rcases List.mem_cons.mp hp with rfl | hp
      · exact .tail _ (.head _)
      · rcases List.mem_cons.mp hp with rfl | hp
        · exact .head _
        · exact .tail _ (.tail _ hp)
  have gF := inv_at J2 (.tail _ (.tail _ (.head _)))
  show wpAny _ X.A.in1 (tryCatch (holding [u] (call (.ref f) [u])) _ >>= _) _ _ _
  refine wpAny_bind (wpAny_tryCatch (wpAny_holding (wpAny_mono (turn 0 x0 u _ _ hx0 ru J2 gF) (fun y s'' he => ?_) fun _ _ hF => hF.elim)))
  obtain ⟨y', H', J3, ry, ey, eH⟩ := he
  subst ey
  rw [eH] at J3
  obtain ⟨t2, rfl⟩ := ry
  have gS3 := inv_at J3 (.head _)
  have gI3 := inv_at J3 (.tail _ (.head _))
  have s1 := Heap.SameBut.update s''.heap (I + 1) (Obj.mapSeq fun _ => #[u, .int (kf 0) t2])
  obtain ⟨c2, hc2⟩ : ∃ c2, (s''.heap.update (I + 1) (Obj.mapSeq fun _ => #[u, .int (kf 0) t2])).get? (I + 1) = some (seqObj "list" #[u, .int (kf 0) t2] c2) := ⟨_, get?_update_seq gS3 fun _ => #[u, .int (kf 0) t2]⟩
  show wpAny _ X.A.in1 (updateSeq (I + 1) (fun _ => #[u, .int (kf 0) t2]) >>= _) _ _ _
  refine wpAny_bind ?_
  refine wpAny_updateSeq gS3 rfl ?_
  rw [hname]
  have J4 : Inv X ((I, oI') :: (f, oF) :: pins) σ H { s'' with heap := s''.heap.update (I + 1) (Obj.mapSeq fun _ => #[u, .int (kf 0) t2]) } :=
    inv_turn (t' := s''.toks) (inv_sub J3 fun p hp => .tail _ hp) fS (nS _) fun b o hb e => (s1.2 b hb).trans e
  have J5 := inv_pin J4 fS hc2 (noCell _ _)
  refine wpAny_pure ⟨plainId_quiet PySem.F.plain_min_loop _, min_loop hh hl hlI hSI hSf hIf fS fI turn (fun i x v s' a b c d => hQ i x v s' a b c d) _ 0 0 _ x0 u t2 c2 oI' rfl hne J5 ⟨oI', (s1.2 I hSI.symm).trans gI3, hoc, hod⟩ hx0 ru (Nat.le_refl _) fun j' hj' => ?_⟩
  have e : j' = 0 := by omega
  subst e
  exact Int.le_refl _
end
end Lh
namespace Lh
open PySem PySem.Spec PyProof.Rows L2
/-! ### min(e, key=lambda x: ..) as an expression -/
section
variable {X : Cx}
def tMinLam (K : PySem.W.Frag) (T : List (Addr × Str)) (N : List Str) (te tb : TE) : TE := fun σ H Q => te σ H fun x H1 => LamX.Tabs T H1 ∧ ∃ (l : Addr) (xs : List L2.V) (kf : Nat → Int), x = .ref l ∧ SqL K H1 l xs ∧ 0 < xs.length ∧
  (∀ H2, Kp H1 H2 → ∀ i y, xs[i]? = some y → tb (L2.start N [y]) H2 fun u H' => u = .int (kf i) ∧ H' = H2) ∧ ∀ H2, Kp H1 H2 → LamX.Tabs T H2 → ∀ i y, xs[i]? = some y → (∀ j, j < xs.length → kf i ≤ kf j) → Q y H2
theorem pe_minlam {T : List (Addr × Str)} {c P : Addr} {k : Nat} {N : List Str} {a : Str} {e : Expr} {te tb : TE} {params : Arguments} {body : Expr} {scope : Scope} {p lpos kpos pos : Pos} (hg : Gl X "min") (hm : X.mg "min" = none) (he : PE X e te)
    (TB : LamX.TabB X.base X.mg c P) (hcode : X.env.code = .ref c) (hmT : (P, X.env.qual ++ "<lambda>") ∈ T) (hu : ∀ p ∈ T, p.1 = P → p.2 = X.env.qual ++ "<lambda>") (hr : Room (k + 2) X.A) (S : FnScope N [a] scope) (hcalm : X.calm = true)
    (hdef : defaultsOf params X.env = ([], [])) (hclo : cloFrom X.env.cells scope.names [] = [])
    (hbind : ∀ (q : Str) (pm cv ctv v : Value), bindArgs (PySem.W.kla_fn "<lambda>" q params body scope [] pm cv ctv) ⟨[v], []⟩ = pure [(a, v)])
    (hbody : ∀ (A : Around) (outer : List Env) (s : Shared) (H : Hp) (f c' : Addr), PE (cxOf C8.CX0 X.prog X.w X.K X.mg X.base N (X.env.qual ++ "<lambda>") scope f (.ref c') A outer s H C8.E0) body tb)
    (hst : starEach [e] X.env = (false, eval e X.env) :: starEach [] X.env := by rfl) (hpl : (backTo pos (starEach [e] X.env)).any (·.1) = false := by rfl) (hbk : backTo pos (starEach [e] X.env) = (false, eval e X.env) :: backTo pos (starEach [] X.env) := by rfl) :
    PE X (.Call (.Name "min" p) [e] [⟨some "key", .Lambda params body scope lpos, kpos⟩] pos) (tMinLam X.K T N te tb) := by
  refine ⟨fun pins s σ H Q I h => ?_⟩
  refine wpAny_Call_Name_kw (ld_blt I hg hm PyProof.Rows.boot_min ?_)
  refine PyProof.Rows.callWith_kw (thn ((pa_cons he pa_nil hst).run pos pins s σ H (Q := fun vs H1 => ∃ x, vs = [x] ∧ LamX.Tabs T H1 ∧ ∃ (l : Addr) (xs : List L2.V) (kf : Nat → Int), x = .ref l ∧ SqL X.K H1 l xs ∧ 0 < xs.length ∧
      (∀ H2, Kp H1 H2 → ∀ i y, xs[i]? = some y → tb (L2.start N [y]) H2 fun u H' => u = .int (kf i) ∧ H' = H2) ∧ ∀ H2, Kp H1 H2 → LamX.Tabs T H2 → ∀ i y, xs[i]? = some y → (∀ j, j < xs.length → kf i ≤ kf j) → Q y H2) I ?_)
      fun us s1 ⟨vs, H1, I1, r1, q1⟩ => ?_) hbk hpl rfl rfl
  · show te σ H _
    refine (show te σ H (fun x H1 => tNil σ H1 fun ys H2 => ∃ x', x :: ys = [x'] ∧ LamX.Tabs T H2 ∧ ∃ (l : Addr) (xs : List L2.V) (kf : Nat → Int), x' = .ref l ∧ SqL X.K H2 l xs ∧ 0 < xs.length ∧
      (∀ H3, Kp H2 H3 → ∀ i y, xs[i]? = some y → tb (L2.start N [y]) H3 fun u H' => u = .int (kf i) ∧ H' = H3) ∧ ∀ H3, Kp H2 H3 → LamX.Tabs T H3 → ∀ i y, xs[i]? = some y → (∀ j, j < xs.length → kf i ≤ kf j) → Q y H3) from ?_)
    have e1 : (fun x H1 => tNil σ H1 fun ys H2 => ∃ x', x :: ys = [x'] ∧ LamX.Tabs T H2 ∧ ∃ (l : Addr) (xs : List L2.V) (kf : Nat → Int), x' = L2.V.ref l ∧ SqL X.K H2 l xs ∧ 0 < xs.length ∧
      (∀ H3, Kp H2 H3 → ∀ i y, xs[i]? = some y → tb (L2.start N [y]) H3 fun u H' => u = .int (kf i) ∧ H' = H3) ∧ ∀ H3, Kp H2 H3 → LamX.Tabs T H3 → ∀ i y, xs[i]? = some y → (∀ j, j < xs.length → kf i ≤ kf j) → Q y H3) =
      (fun x H1 => LamX.Tabs T H1 ∧ ∃ (l : Addr) (xs : List L2.V) (kf : Nat → Int), x = L2.V.ref l ∧ SqL X.K H1 l xs ∧ 0 < xs.length ∧
      (∀ H3, Kp H1 H3 → ∀ i y, xs[i]? = some y → tb (L2.start N [y]) H3 fun u H' => u = .int (kf i) ∧ H' = H3) ∧ ∀ H3, Kp H1 H3 → LamX.Tabs T H3 → ∀ i y, xs[i]? = some y → (∀ j, j < xs.length → kf i ≤ kf j) → Q y H3) := by
      funext x H1
      refine propext ⟨fun ⟨x', z, w⟩ => ?_, fun w => ⟨x, rfl, w⟩⟩
      have z2 : x = x' := (List.cons.inj z).1
      subst z2
      exact w
    rw [e1]
    exact h
  obtain ⟨x, rfl, hT, l, xs, kf, rfl, hl, hne, hkey, q⟩ := q1
  cases r1 with
  | cons ru rn =>
  cases rn
  cases ru
  show wpAny _ _ (evalAll ((do let v ← eval (.Lambda params body scope lpos) X.env; standAt pos; pure v) :: [])) _ _ s1
  refine wpAny_evalAll_cons (wpAny_bind ?_)
  refine LamX.lam_make2 I1 TB hcode hmT hu hT hdef (fun y hy e => absurd e (S.nofree y hy)) fun f c' pm ctv H2 s' I2 eN T2 hf hfn hfr hco => ?_
  rw [hclo] at hf
  refine wpAny_bind (wpAny_standAt (wpAny_pure ?_))
  refine wpAny_evalAll_nil ?_
  have nl : f ≠ X.env.locals := fun z => by
    obtain ⟨m, ⟨o, es, ep, ho, hd, _⟩, _⟩ := I2.loc
    rw [← z, hf] at ho
    cases ho
    cases hd
  have nf : f ∉ X.fs := fun z => hfr (by
    rcases I2.ok.stk with e | ⟨e, hfr'⟩
    · rw [e]; exact z
    · rw [e]
      unfold frs
      rw [List.filterMap_cons, hfr']
      exact List.mem_cons_of_mem _ z)
  have J : Inv X ((f, PySem.W.kla_obj "<lambda>" (X.env.qual ++ "<lambda>") params body scope [] pm c' ctv) :: pins) σ H2 s' := I2.pins_of fun p hp => by
    rcases List.mem_cons.mp hp with rfl | hp
    · exact ⟨hf, hfn, nl, nf, fun v z => by cases z⟩
    · exact I2.pin p (List.mem_append_right _ hp)
  refine min_key (kf := kf) (I2.ok.hd hcalm) J ((show Kp H1 H2 from eN).l hl) hne (fun i y v pins' s2 hy ry J2 gF => ?_) fun i y v s2 hy ry hb J2 => ⟨y, H2, J2, ry, q H2 eN T2 i y hy hb⟩
  obtain ⟨⟨oc, vs, t, hoc, hdc, hvc⟩, _, _⟩ := J2.hok c' _ hco
  have rc := lam_code (A := X.A.in1) (Q := fun u H' => u = .int (kf i) ∧ H' = H2) S hr.in1 J2.env0.in1 gF ⟨c', oc, vs, t, rfl, hoc, hdc, hvc⟩ (hbind _ _ _ _ v) (Paired.cons ry .nil) rfl (fun _ => hbody _ _ _ _ _ _) (hkey H2 eN i y hy)
  refine wpAny_call (codeAny_mono rc fun r s3 hq => ?_)
  cases r with
  | error e => exact hq.elim
  | ok fl =>
    cases fl with
    | ret u => exact J2.after hq
    | next => exact False.elim hq
    | brk => exact False.elim hq
    | cont => exact False.elim hq
end
end Lh
namespace Lh
open PySem PySem.Spec PyProof.Rows L2 Evl
theorem Kp.refl (H : Hp) : Kp H H := fun _ _ h _ => h
theorem Kp.trans {H H1 H2 : Hp} (a : Kp H H1) (b : Kp H1 H2) : Kp H H2 := LamX.ExtN.trans a b
theorem tabs_ex {T : List (Addr × Str)} {H H' : Hp} (t : LamX.Tabs T H) (e : Ex H H') : LamX.Tabs T H' := t.ext e
theorem paired_at2 {α β : Type} {F : α → β → Prop} {l₁ : List α} {l₂ : List β} {i : Nat} {x : α} {y : β} (h : Paired F l₁ l₂) (hx : l₁[i]? = some x) (hy : l₂[i]? = some y) : F x y := by
  obtain ⟨z, hz, hf⟩ := paired_at h hx
  rw [hy] at hz
  cases hz
  exact hf
def qL : Str := "Asked.shortest" ++ ".<locals>." ++ "<lambda>"
section
variable {P : Program} {w : World} {K : PySem.W.Frag} {mg : Str → Option Value} {base : Heap}
def sp_shortest (K : PySem.W.Frag) (C : Addr) (T : List (Addr × Str)) : Sp := fun vs H Q _ => ∃ (p : Addr) (m : Nat) (ts : List Tie) (es : List Nat) (own : Nat) (start stop : Int) (U : Tab), vs = [.ref p] ∧ AskAt K C H p m ts es own start stop U ∧ LamX.Tabs T H ∧ m ≤ 10 ∧ es.length ≤ 4 ∧ own < m ∧ (∀ e ∈ es, e < m) ∧
  ∀ v q H', Kp H H' → LamX.Tabs T H' → IsEnd K H' v q → q ∈ endings m U es own start stop → (∀ q' ∈ endings m U es own start stop, q.1 ≤ q'.1) → Q v H'
theorem met_shortest {C f c Pt : Addr} {oc dV kV doc pm ct : Value} {od an : Option Addr} {osl : Array (Option Value)} (G : Gs mg)
    (lk : K.lookup f = some ⟨oc, od, .func (PySem.W.fnOf "shortest" "Asked.shortest" (defArgs s_shortest) (defBody s_shortest) (defScope s_shortest) dV kV doc pm an (.ref c) ct), osl⟩) (hcd : PySem.W.codeIn K (.ref c) "Asked.shortest" = true)
    (cl : Cls K C) (me : Meth K C "shortest" f) (b : Binds K (PySem.W.fnOf "shortest" "Asked.shortest" (defArgs s_shortest) (defBody s_shortest) (defScope s_shortest) dV kV doc pm an (.ref c) ct) p_shortest [])
    (TB : LamX.TabB base mg c Pt) {k : Nat} (CE : C8.Met P w K mg base k C "endings" (sp_endings K C) []) {j : Nat} (hk : k ≤ j) (h2 : 2 ≤ j) : C8.Met P w K mg base (j + 1) C "shortest" (sp_shortest K C [(Pt, qL)]) [] := by
  refine ⟨f, _, p_shortest, [], cl, me, fn_of (N := n_shortest) lk hcd sc_shortest (fun vs H Q E h => ?_) (fun A outer s H vs Q E hr h => ?_), b, .nil⟩
  · obtain ⟨_, _, _, _, _, _, _, _, rfl, _⟩ := h
    rfl
  obtain ⟨p, m, ts, es, own, start, stop, U, rfl, ha, hT, hm, hes, ho, he, q⟩ := h
  suffices hs : ∃ t, PSs (cxOf C8.CX0 P w K mg base n_shortest "Asked.shortest" (defScope s_shortest) f (.ref c) A outer s H E).nox (defBody s_shortest) t ∧ t { nx := fun _ H' => Q .non H', rt := Q } (L2.start n_shortest [.ref p]) H by
    obtain ⟨t, h, q⟩ := hs
    exact ⟨t, h.nox, q⟩
  refine ⟨_, pss_one (ps_ret (pe_minlam (T := [(Pt, qL)]) (c := c) (P := Pt) (k := 0) (N := ["pair"]) (a := "pair") (tb := tOp (rIxT K) (tVar 0) (tC (.int 0))) rfl G.min (C8.pe_mt0 CE hr hk (pv 0)) TB rfl (.head _) (fun x hx _ => by rw [List.mem_singleton.mp hx]; rfl)
    (hr.mono h2) (C8.fnScope_by (by decide +kernel)) rfl rfl rfl (fun _ _ _ _ _ => rfl) (fun _ _ _ _ _ _ => pe_ix (r := rIxT K) ix_tup (pv 0) pe_int (fun _ _ => rfl)))), ?_⟩
  obtain ⟨ta, ea, ba, dx, bs, a⟩ := id ha
  refine ⟨_, rfl, p, dx, _, rfl, a.ob, rfl, p, m, ts, es, own, start, stop, U, rfl, ha, hm, hes, ho, he, fun b H1 vs e1 fb hb hv => ?_⟩
  have lv : vs.length = (endings m U es own start stop).length := hv.length
  refine ⟨tabs_ex hT e1, b, vs, fun i => ((endings m U es own start stop)[i]?.map (·.1)).getD 0, rfl, sq_of hb, ?_, fun H2 e2 i y hy => ?_, fun H2 e2 t2 i y hy hmin => ?_⟩
  · rw [lv, endings_len]
    omega
  · obtain ⟨q1, hq1, p1, x1, rfl, h1, _⟩ := paired_at hv hy
    refine ⟨_, rfl, p1, _, 0, _, rfl, rfl, e2.t h1, atI_nat (j := 0) rfl, ?_, rfl⟩
    simp only [hq1, Option.map_some, Option.getD_some]
  · obtain ⟨q1, hq1, hE⟩ := paired_at hv hy
    refine q y q1 H2 ((Kp.of e1).trans e2) t2 (hE.kp e2) (List.mem_of_getElem? hq1) fun q' hq' => ?_
    obtain ⟨j', hj'⟩ := List.mem_iff_getElem?.mp hq'
    have hjl : j' < vs.length := by
      rw [lv]
      exact (List.getElem?_eq_some_iff.mp hj').1
    have := hmin j' hjl
    simp only [hq1, hj', Option.map_some, Option.getD_some] at this
    exact this
end
end Lh
namespace Lh
open PySem PySem.Spec PyProof.Rows L2 Evl
/-- nothing but a table may stand there -/
def Fresh (H : Hp) (p : Addr) : Prop := ∀ o, H p = some o → ∃ ps, o = HO.tbl ps
theorem Kp.fresh {H H' : Hp} (e : Kp H H') {p : Addr} (h : H' p = none) : Fresh H p := fun o ho => by
  cases o with
  | tbl ps => exact ⟨ps, rfl⟩
  | _ =>
    have := e p _ ho (fun ps z => by cases z)
    rw [h] at this
    cases this
theorem Kp.mut {H H' : Hp} (e : Kp H H') {p : Addr} {o : HO} (h : Fresh H p) : Kp H (upd H' p o) := fun b u hb n => by
  have hbp : b ≠ p := fun z => by
    subst z
    obtain ⟨ps, hps⟩ := h u hb
    exact n ps hps
  rw [upd_ne hbp]
  exact e b u hb n
theorem Fresh.of {H : Hp} {p : Addr} (h : H p = none) : Fresh H p := fun o ho => by
  rw [h] at ho
  cases ho
theorem tabs_lst {T : List (Addr × Str)} {H : Hp} {p : Addr} {xs ys : List L2.V} (t : LamX.Tabs T H) (h : H p = some (.lst xs)) : LamX.Tabs T (upd H p (.lst ys)) := fun q hq => by
  obtain ⟨ps, h1, h2, h3⟩ := t q hq
  refine ⟨ps, by rw [upd_ne (ne_of h1 h (by intro z; cases z))]; exact h1, h2, fun pos cv hc => ?_⟩
  obtain ⟨c, e1, e2⟩ := h3 pos cv hc
  refine ⟨c, e1, ?_⟩
  have hne : c ≠ p := fun z => by
    rw [z, h] at e2
    cases e2
  rw [upd_ne hne]
  exact e2
/-- what is handed to the four functions -/
structure Asking (K : PySem.W.Frag) (H : Hp) (ta ra : Addr) (m : Nat) (ts : List Tie) (es rest : List Nat) (own : Nat) (start : Int) (e : Option Int) : Prop where
  m0 : 1 ≤ m
  m1 : m ≤ 10
  tl : ts.length ≤ 80
  ties : IsTies K H ta ts
  ok : ∀ t ∈ ts, OkTie m t
  way : ∃ d, Way m ts d
  row : IsNats K H ra (es ++ own :: rest)
  okr : OkRow m (es ++ own :: rest)
  run : Run start e
theorem Asking.kp {K : PySem.W.Frag} {H H' : Hp} {ta ra : Addr} {m : Nat} {ts : List Tie} {es rest : List Nat} {own : Nat} {start : Int} {e : Option Int} (a : Asking K H ta ra m ts es rest own start e) (k : Kp H H') : Asking K H' ta ra m ts es rest own start e :=
  ⟨a.m0, a.m1, a.tl, a.ties.kp k, a.ok, a.way, k.l a.row, a.okr, a.run⟩
section
variable {K : PySem.W.Frag} {H : Hp} {ta ra : Addr} {m : Nat} {ts : List Tie} {es rest : List Nat} {own : Nat} {start : Int} {e : Option Int} (a : Asking K H ta ra m ts es rest own start e)
include a
theorem Asking.hn : own ∉ es := fun h => by
  have := a.okr.nd
  rw [List.nodup_append] at this
  exact this.2.2 own h own (List.mem_cons_self ..) rfl
theorem Asking.ask : Ask m ts es own start (untilOf e) := by
  refine ⟨fun t h => (a.ok t h).g, a.way, a.okr.lt own (List.mem_append_right _ (List.mem_cons_self ..)), fun x hx => a.okr.lt x (List.mem_append_left _ hx), a.hn, a.run.lt⟩
theorem Asking.es4 : es.length ≤ 4 := by
  have := a.okr.l1
  rw [List.length_append] at this
  omega
theorem Asking.tab : ∃ U, tableOf m ts = some U := by
  obtain ⟨d, w⟩ := a.way
  exact table_pot a.ask.good (w.pot a.ask.good)
end
section
variable {P : Program} {w : World} {K : PySem.W.Frag} {mg : Str → Option Value} {base : Heap}
/-- Asked(many, ties, row, life, (start, end)) -/
def tMk (C : Addr) (sp : Sp) : TE := tMake C sp [] C8.E0 (tCons (tVar 0) (tCons (tVar 1) (tCons (tVar 2) (tCons (tVar 3) (tCons (tTup (tCons (tVar 4) (tCons (tVar 5) tNil))) tNil)))))
theorem ev_mk {C : Addr} {H : Hp} {σ : L2.St} {ta ra : Addr} {m : Nat} {ts : List Tie} {es rest : List Nat} {own : Nat} {start : Int} {e : Option Int} {U : Tab} (a : Asking K H ta ra m ts es rest own start e) (hU : tableOf m ts = some U)
    (h0 : σ[0]? = some (some (.int (m : Int)))) (h1 : σ[1]? = some (some (.ref ta))) (h2 : σ[2]? = some (some (.ref ra))) (h3 : σ[3]? = some (some (.int (own : Int)))) (h4 : σ[4]? = some (some (.int start))) (h5 : σ[5]? = some (some (optV e)))
    {Q : VK} (q : ∀ p H', Ex H H' → AskAt K C H' p m ts es own start (untilOf e) U → Q (.ref p) H') : tMk C (sp_init K C) σ H Q := by
  refine ⟨_, h0, _, h1, _, h2, _, h3, _, h4, _, h5, sz_of (by show 2 ≤ 100000; omega), fun ru hru => ?_⟩
  intro x dx hx hdx hne
  have e1 : Ex H (upd H ru (.tup [.int start, optV e])) := Ex.new hru
  have e2 : Ex (upd H ru (.tup [.int start, optV e])) (upd (upd (upd H ru (.tup [.int start, optV e])) dx (.own x)) x (.ins C dx [])) := (Ex.new hdx).mut hx
  refine ⟨upd H ru (.tup [.int start, optV e]), x, dx, ta, ra, ru, m, ts, es, rest, own, start, e, U, rfl, e2, hx, upd_same, a.m0, a.m1, a.tl, a.ties.kp (Kp.of e1), a.ok, ex_l e1 a.row, a.okr, a.hn, st_of upd_same, a.run, hU, fun H' e3 ha => ⟨rfl, q x H' (e1.trans e3) ha⟩⟩
def Six (m : Nat) (ta ra : Addr) (own : Nat) (start : Int) (e : Option Int) : List L2.V := [.int (m : Int), .ref ta, .ref ra, .int (own : Int), .int start, optV e]
/-! ### fewest_days, most_days -/
def sp_fewest_days (K : PySem.W.Frag) (T : List (Addr × Str)) : Sp := fun vs H Q _ => ∃ (ta ra : Addr) (m : Nat) (ts : List Tie) (es rest : List Nat) (own : Nat) (start : Int) (e : Option Int), vs = Six m ta ra own start e ∧ Asking K H ta ra m ts es rest own start e ∧ LamX.Tabs T H ∧
  ∀ z H', Kp H H' → LamX.Tabs T H' → IsFew m ts es own start (untilOf e) z → Q (.int z) H'
theorem b_fewest_days {C : Addr} {T : List (Addr × Str)} (G : Gs mg) {k : Nat} (CA : C8.Mak P w K mg base k "Asked" C (sp_init K C) []) (CS : C8.Met P w K mg base k C "shortest" (sp_shortest K C T) []) {j : Nat} (hk : k + 1 ≤ j) : Body P w K mg base j "fewest_days" s_fewest_days n_fewest_days (sp_fewest_days K T) := by
  rintro f cdv A outer s H vs Q E hr ⟨ta, ra, m, ts, es, rest, own, start, e, rfl, a, hT, q⟩
  refine ⟨_, pss_one (ps_ret (pe_callB (call_max2 rfl) rfl G.max PyProof.Rows.boot_max (pa_cons pe_int (pa_cons (pe_ix (r := rIxT K) ix_tup (C8.pe_mt0 CS hr (by omega) (C8.pe_mk CA hr hk rfl (pa_cons (pv 0) (pa_cons (pv 1) (pa_cons (pv 2) (pa_cons (pv 3) (pa_cons (pe_tup (pa_cons (pv 4) (pa_cons (pv 5) pa_nil))) pa_nil))))))) pe_int (fun _ _ => rfl)) pa_nil)))), ?_⟩
  obtain ⟨U, hU⟩ := a.tab
  refine (show tMk C (sp_init K C) (L2.start n_fewest_days (Six m ta ra own start e)) H (fun x H1 => ∃ a dx fs, x = L2.V.ref a ∧ H1 a = some (.ins C dx fs) ∧ fs.lookup ("shortest" : Str) = none ∧ sp_shortest K C T [x] H1 (fun x H3 => rIxT K x (.int 0) H3 fun v H5 => ∃ i j, [L2.V.int 0, v] = [L2.V.int i, L2.V.int j] ∧ Q (.int (if j > i then j else i)) H5) C8.E0) from ?_)
  refine ev_mk (K := K) (C := C) (σ := L2.start n_fewest_days (Six m ta ra own start e)) a hU rfl rfl rfl rfl rfl rfl fun p H1 e1 ha => ?_
  obtain ⟨tb, ea, ba, dx, bs, ai⟩ := id ha
  refine ⟨p, dx, _, rfl, ai.ob, rfl, p, m, ts, es, own, start, untilOf e, U, rfl, ha, tabs_ex hT e1, a.m1, a.es4, a.ask.ho, a.ask.he, fun v qq H2 e2 t2 hE hq hmin => ?_⟩
  obtain ⟨p2, x, rfl, h1, _⟩ := hE
  refine ⟨p2, _, 0, _, rfl, rfl, h1, atI_nat (j := 0) rfl, _, _, rfl, ?_⟩
  refine q_int (ifMax 0 qq.1) (q _ H2 ((Kp.of e1).trans e2) t2 ?_)
  exact (a.ask.few hU (v := qq.1) (o := qq.2) hq hmin).1
def sp_most_days (K : PySem.W.Frag) : Sp := fun vs H Q _ => ∃ (ta ra : Addr) (m : Nat) (ts : List Tie) (es rest : List Nat) (own : Nat) (start : Int) (e : Option Int), vs = Six m ta ra own start e ∧ Asking K H ta ra m ts es rest own start e ∧
  ∀ z H', Ex H H' → 0 ≤ z → z ≤ untilOf e - start → IsMost m ts es own start (untilOf e) z → Q (.int z) H'
theorem b_most_days {C : Addr} {k : Nat} (CA : C8.Mak P w K mg base k "Asked" C (sp_init K C) []) (CL : C8.Met P w K mg base k C "longest" (sp_longest K C) []) {j : Nat} (hk : k + 1 ≤ j) : Body P w K mg base j "most_days" s_most_days n_most_days (sp_most_days K) := by
  rintro f cdv A outer s H vs Q E hr ⟨ta, ra, m, ts, es, rest, own, start, e, rfl, a, q⟩
  refine ⟨_, pss_one (ps_ret (C8.pe_mt0 CL hr (by omega) (C8.pe_mk CA hr hk rfl (pa_cons (pv 0) (pa_cons (pv 1) (pa_cons (pv 2) (pa_cons (pv 3) (pa_cons (pe_tup (pa_cons (pv 4) (pa_cons (pv 5) pa_nil))) pa_nil)))))))), ?_⟩
  obtain ⟨U, hU⟩ := a.tab
  refine ev_mk (K := K) (C := C) a hU rfl rfl rfl rfl rfl rfl fun p H1 e1 ha => ?_
  obtain ⟨tb, ea, ba, dx, bs, ai⟩ := id ha
  have R := a.run
  have r1 := R.lt; have r2 := R.le; have r3 := R.b0
  refine ⟨p, dx, _, rfl, ai.ob, rfl, p, m, ts, es, own, start, untilOf e, U, rfl, ha, a.m1, a.tl, a.es4, fun c => a.ask.moreGood c, R.lt, by omega, fun z H2 e2 z0 z1 hz hn => ?_⟩
  exact q z H2 (e1.trans e2) z0 z1 (a.ask.most z0 z1 hz hn hU).1
/-! ### fewest_way, most_way -/
def sp_fewest_way (K : PySem.W.Frag) (T : List (Addr × Str)) : Sp := fun vs H Q _ => ∃ (ta ra : Addr) (m : Nat) (ts : List Tie) (es rest : List Nat) (own : Nat) (start : Int) (e : Option Int), vs = Six m ta ra own start e ∧ Asking K H ta ra m ts es rest own start e ∧ LamX.Tabs T H ∧
  ∀ (d : List Int) p H', Kp H H' → LamX.Tabs T H' → Fresh H p → H' p = some (.lst (d.map L2.V.int)) → Way m ts d → IsFew m ts es own start (untilOf e) (cnt (dl d) es own start (untilOf e)) → Q (.ref p) H'
theorem b_fewest_way {C : Addr} {T : List (Addr × Str)} (TA : Ak K C) {k : Nat} (CA : C8.Mak P w K mg base k "Asked" C (sp_init K C) []) (CS : C8.Met P w K mg base k C "shortest" (sp_shortest K C T) [])
    (CE : C8.Cal P w K mg base k "early_of" sp_early_of []) (CT : C8.Cal P w K mg base k "table_of" (sp_table_of K) []) {j : Nat} (hk : k + 1 ≤ j) : Body P w K mg base j "fewest_way" s_fewest_way n_fewest_way (sp_fewest_way K T) := by
  rintro f cdv A outer s H vs Q E hr ⟨ta, ra, m, ts, es, rest, own, start, e, rfl, a, hT, q⟩
  have nd' := sc_fewest_way.nd
  have hk0 : k ≤ j := by omega
  refine ⟨_, pss_cons (ps_set (i := 6) nd' rfl (.inl rfl) (C8.pe_mk CA hr hk rfl (pa_cons (pv 0) (pa_cons (pv 1) (pa_cons (pv 2) (pa_cons (pv 3) (pa_cons (pe_tup (pa_cons (pv 4) (pa_cons (pv 5) pa_nil))) pa_nil)))))))
    (pss_cons (ps_set (i := 7) nd' rfl (.inl rfl) (pe_ix (r := rIxT K) ix_tup (C8.pe_mt0 CS hr hk0 (pv 6)) pe_int (fun _ _ => rfl)))
    (pss_cons (ps_if (pt_cmpR op_isN (pv 7) pe_non (nomark _)) (pss_one (ps_ret (C8.pe_c CE hr hk0 rfl (pa_cons (pe_fld (pv 6) rfl) pa_nil)))) pss_nil)
    (pss_one (ps_ret (C8.pe_c CE hr hk0 rfl (pa_cons (C8.pe_c CT hr hk0 rfl (pa_cons (pv 0) (pa_cons (pe_op op_cat (pe_fld (pv 6) rfl) (pe_lst (pa_cons (pv 7) pa_nil))) pa_nil))) pa_nil)))))), ?_⟩
  obtain ⟨U, hU⟩ := a.tab
  refine ev_mk (K := K) (C := C) a hU rfl rfl rfl rfl rfl rfl fun p H1 e1 ha => ?_
  obtain ⟨tb, ea, ba, dx, bs, ai⟩ := id ha
  refine ⟨_, rfl, p, dx, _, rfl, ai.ob, rfl, p, m, ts, es, own, start, untilOf e, U, rfl, ha, tabs_ex hT e1, a.m1, a.es4, a.ask.ho, a.ask.he, fun v qq H2 e2 t2 hE hq hmin => ?_⟩
  obtain ⟨p2, x, rfl, h1, hx⟩ := hE
  obtain ⟨qv, qo⟩ := qq
  obtain ⟨f1, f2, f3⟩ := a.ask.few hU hq hmin
  have k2 : Kp H H2 := (Kp.of e1).trans e2
  have a2 := ai.kp e2
  refine ⟨p2, _, 1, x, rfl, rfl, h1, atI_nat (j := 1) rfl, _, rfl, rfl, _, rfl, ?_⟩
  cases qo with
  | none =>
    have ex : x = .non := hx
    subst ex
    obtain ⟨w1, c1⟩ := f2 rfl
    refine ifT rfl ⟨_, rfl, p, C, dx, _, _, rfl, a2.ob, TA.cl, TA.nTable, rfl, m, tb, U, rfl, a.m1, a2.tab, fun p3 H3 hp3 e3 h3 => ?_⟩
    exact q _ p3 H3 (k2.trans (Kp.of e3)) (tabs_ex t2 e3) (k2.fresh hp3) h3 w1 (by rw [c1]; exact f1)
  | some t =>
    obtain ⟨pt, rfl, hpt⟩ : IsTie K H2 x t := hx
    obtain ⟨gt, V, hV⟩ := a.ask.end_tie hU hq
    obtain ⟨w1, c1⟩ := f3 t V rfl hV
    refine ifF rfl ?_
    refine ⟨_, rfl, _, rfl, p, C, dx, _, _, rfl, a2.ob, TA.cl, TA.nBonds, rfl, _, rfl, sz_of (by show 1 ≤ 100000; omega), fun b hb => ?_⟩
    have e3 : Ex H2 (upd H2 b (.lst [.ref pt])) := Ex.new hb
    have lb : bs.length = ts.length := ai.ties.length
    have lt := a.tl
    refine ⟨ba, b, bs, [.ref pt], rfl, rfl, e3 _ _ a2.bond, upd_same, sz_of (by show bs.length + 1 ≤ 100000; omega), fun b2 hb2 => ?_⟩
    have e4 : Ex H2 (upd (upd H2 b (.lst [.ref pt])) b2 (.lst (bs ++ [.ref pt]))) := e3.trans (Ex.new hb2)
    refine ⟨m, b2, ts ++ [t], rfl, a.m1, ⟨bs ++ [.ref pt], sq_of upd_same, paired_app (a2.ties.kp (Kp.of e4)) (.cons ⟨pt, rfl, ex_t e4 hpt⟩ .nil)⟩, fun u hu => (List.mem_append.mp hu).elim (a.ask.good u) (fun z => by rw [List.mem_singleton.mp z]; exact gt), fun h => ?_, fun V' hV' b3 H3 e5 hb3 t3 => ?_⟩
    · rw [hV] at h
      cases h
    · rw [hV] at hV'
      cases hV'
      refine ⟨m, b3, V, rfl, a.m1, t3, fun p3 H4 hp3 e6 h3 => ?_⟩
      have e7 := (e4.trans e5).trans e6
      exact q _ p3 H4 (k2.trans (Kp.of e7)) (tabs_ex t2 e7) (k2.fresh (fresh_back (e4.trans e5) hp3)) h3 w1 (by rw [c1]; exact f1)
def sp_most_way (K : PySem.W.Frag) : Sp := fun vs H Q _ => ∃ (ta ra : Addr) (m : Nat) (ts : List Tie) (es rest : List Nat) (own : Nat) (start : Int) (e : Option Int), vs = Six m ta ra own start e ∧ Asking K H ta ra m ts es rest own start e ∧
  ∀ (d : List Int) p H', Ex H H' → H p = none → H' p = some (.lst (d.map L2.V.int)) → Way m ts d → IsMost m ts es own start (untilOf e) (cnt (dl d) es own start (untilOf e)) → Q (.ref p) H'
theorem b_most_way {C : Addr} (TA : Ak K C) {k : Nat} (CA : C8.Mak P w K mg base k "Asked" C (sp_init K C) []) (CL : C8.Met P w K mg base k C "longest" (sp_longest K C) []) (CW : C8.Met P w K mg base k C "with_days" (sp_with_days K C) [])
    (CE : C8.Cal P w K mg base k "late_of" sp_late_of []) {j : Nat} (hk : k + 1 ≤ j) : Body P w K mg base j "most_way" s_most_way n_most_way (sp_most_way K) := by
  rintro f cdv A outer s H vs Q E hr ⟨ta, ra, m, ts, es, rest, own, start, e, rfl, a, q⟩
  have nd' := sc_most_way.nd
  have hk0 : k ≤ j := by omega
  refine ⟨_, pss_cons (ps_set (i := 6) nd' rfl (.inl rfl) (C8.pe_mk CA hr hk rfl (pa_cons (pv 0) (pa_cons (pv 1) (pa_cons (pv 2) (pa_cons (pv 3) (pa_cons (pe_tup (pa_cons (pv 4) (pa_cons (pv 5) pa_nil))) pa_nil)))))))
    (pss_cons (ps_set (i := 7) nd' rfl (.inl rfl) (C8.pe_mt0 CL hr hk0 (pv 6)))
    (pss_cons (ps_if (pt_cmpR op_eq (pv 7) pe_int (nomark _)) (pss_one (ps_ret (C8.pe_c CE hr hk0 rfl (pa_cons (pe_fld (pv 6) rfl) pa_nil)))) pss_nil)
    (pss_one (ps_ret (C8.pe_c CE hr hk0 rfl (pa_cons (C8.pe_mt CW hr hk0 (pv 6) (pa_cons (pv 7) pa_nil)) pa_nil)))))), ?_⟩
  obtain ⟨U, hU⟩ := a.tab
  refine ev_mk (K := K) (C := C) a hU rfl rfl rfl rfl rfl rfl fun p H1 e1 ha => ?_
  obtain ⟨tb, ea, ba, dx, bs, ai⟩ := id ha
  have R := a.run
  have r1 := R.lt; have r2 := R.le; have r3 := R.b0
  refine ⟨_, rfl, p, dx, _, rfl, ai.ob, rfl, p, m, ts, es, own, start, untilOf e, U, rfl, ha, a.m1, a.tl, a.es4, fun c => a.ask.moreGood c, R.lt, by omega, fun z H2 e2 z0 z1 hz hn => ?_⟩
  obtain ⟨f1, f2, f3⟩ := a.ask.most z0 z1 hz hn hU
  have ee2 : Ex H H2 := e1.trans e2
  have a2 := ai.kp (Kp.of e2)
  refine ⟨_, rfl, rfl, _, rfl, ?_⟩
  by_cases hz0 : z = 0
  · obtain ⟨w1, c1⟩ := f2 hz0
    refine ifT (decide_eq_true (by rw [hz0])) ⟨_, rfl, p, C, dx, _, _, rfl, a2.ob, TA.cl, TA.nTable, rfl, m, tb, U, rfl, a.m1, a2.tab, fun p3 H3 hp3 e3 h3 => ?_⟩
    exact q _ p3 H3 (ee2.trans e3) (fresh_back ee2 hp3) h3 w1 (by rw [c1]; exact f1)
  · obtain ⟨V, hV⟩ := hz (by omega)
    obtain ⟨w1, c1⟩ := f3 V (by omega) hV
    refine ifF (decide_eq_false fun z' => hz0 (L2.V.int.inj z')) ?_
    refine ⟨_, rfl, p, dx, _, rfl, a2.ob, rfl, _, rfl, p, m, ts, es, own, start, untilOf e, U, z, rfl, ⟨tb, ea, ba, dx, bs, a2⟩, a.m1, a.tl, a.es4, a.ask.moreGood z, fun h => ?_, fun V' hV' b3 H3 e3 hb3 t3 => ?_⟩
    · rw [hV] at h
      cases h
    · rw [hV] at hV'
      cases hV'
      refine ⟨m, b3, V, rfl, a.m1, t3, fun p3 H4 hp3 e6 h3 => ?_⟩
      exact q _ p3 H4 ((ee2.trans e3).trans e6) (fresh_back (ee2.trans e3) hp3) h3 w1 (by rw [c1]; exact f1)
end
end Lh
namespace Lh
open PySem PySem.Spec PyProof.Rows L2 Evl
/-! ### lists by a point's index -/
theorem ixN_nd {m : Nat} {a : Int} (h0 : -1 ≤ a) (h1 : a < m) : ixN (m + 1) a = some (nd m a) := by
  unfold ixN nd
  by_cases e : a = -1
  · subst e
    rw [if_neg (by decide), if_pos (by omega), if_pos rfl]
    congr 1
    omega
  · rw [if_pos (by omega), if_pos (by omega), if_neg e]
theorem atI_nd {m : Nat} {a : Int} {f : Nat → Int} (h0 : -1 ≤ a) (h1 : a < m) : atI (rowV (m + 1) f) a = some (.int (f (nd m a))) := by
  unfold atI
  rw [rowV_len, ixN_nd h0 h1]
  exact rowV_get (by have := nd_le h0 h1; omega)
theorem ints_atI {d : List Int} {a : Int} (h0 : 0 ≤ a) (h1 : a < d.length) : atI (d.map L2.V.int) a = some (.int (d.getD a.toNat 0)) := by
  obtain ⟨n, rfl⟩ : ∃ n : Nat, a = (n : Int) := ⟨a.toNat, by omega⟩
  have hn : n < d.length := by omega
  refine atI_nat ?_
  rw [List.getElem?_map, List.getElem?_eq_getElem hn, Int.toNat_natCast, List.getD_eq_getElem?_getD, List.getElem?_eq_getElem hn]
  rfl
theorem range_map {α : Type} {v : Nat → L2.V} {g : α → L2.V} {l : List α} {n : Nat} (hl : l.length = n) (h : ∀ i x, l[i]? = some x → v i = g x) : (List.range n).map v = l.map g := by
  refine List.ext_getElem? fun i => ?_
  rw [List.getElem?_map, List.getElem?_map]
  by_cases hi : i < n
  · rw [List.getElem?_range hi, List.getElem?_eq_getElem (by omega)]
    show some (v i) = some (g _)
    rw [h i _ (List.getElem?_eq_getElem (by omega))]
  · rw [List.getElem?_eq_none_iff.mpr (by rw [List.length_range]; omega), List.getElem?_eq_none_iff.mpr (by omega)]
    rfl
theorem flat_rep (x : L2.V) : ∀ n : Nat, (List.replicate n [x]).flatten = List.replicate n x
  | 0 => rfl
  | n + 1 => by
    rw [List.replicate_succ, List.flatten_cons, flat_rep x n, List.replicate_succ]
    rfl
section
variable {K : PySem.W.Frag} {σ : L2.St} {H : Hp} {ta tb te : TE} {D : Ends} {tz : TS}
/-- 0 if a < 0 else days[a] -/
theorem ev_day {a : Int} {d : List Int} {p : Addr} (hd : SqL K H p (d.map L2.V.int)) (h0 : -1 ≤ a) (h1 : a < d.length) (ha : Ev ta σ H (.int a)) (hp : Ev tb σ H (.ref p)) :
    Ev (tIf (tTest (tOp (rI0 fun i j => .bl (decide (i < j))) ta (tC (.int 0)))) (tC (.int 0)) (tOp (rIxL K) tb ta)) σ H (.int (dayOf d a)) := by
  refine ev_if (et_test (ev_op ha ev_c rv_I0)) (fun h => ev_is ev_c ?_) (fun h => ev_is (ev_op hp ha (rv_ixL hd (ints_atI (by have := of_decide_eq_false h; omega) h1))) ?_)
  · unfold dayOf
    rw [if_pos (of_decide_eq_true h)]
  · unfold dayOf
    rw [if_neg (of_decide_eq_false h)]
/-- xs[k] = e, k of any sign -/
theorem s_setK {l : Addr} {xs : List L2.V} {k : Int} {j : Nat} {v : L2.V} (hl : H l = some (.lst xs)) (h : Ev te σ H v) (ho : Ev ta σ H (.ref l)) (hi : Ev tb σ H (.int k)) (hj : ixN xs.length k = some j) (q : ∀ H1, Ex H H1 → D.nx σ (upd H1 l (.lst (xs.set j v)))) :
    tAsg te (gSub ta tb rSetL) D σ H := h H (Ex.refl H) _ fun H1 e1 => ho H1 e1 _ fun H2 e2 => hi H2 (e1.trans e2) _ fun H3 e3 =>
  ⟨l, xs, k, j, rfl, rfl, ((e1.trans e2).trans e3) l _ hl, hj, q H3 ((e1.trans e2).trans e3)⟩
theorem q_setK {l : Addr} {xs : List L2.V} {k : Int} {j : Nat} {v : L2.V} (hl : H l = some (.lst xs)) (h : Ev te σ H v) (ho : Ev ta σ H (.ref l)) (hi : Ev tb σ H (.int k)) (hj : ixN xs.length k = some j) (q : ∀ H1, Ex H H1 → tz D σ (upd H1 l (.lst (xs.set j v)))) :
    tSeq (tAsg te (gSub ta tb rSetL)) tz D σ H := s_setK (D := { D with nx := tz D }) hl h ho hi hj q
/-- [x] * n -/
theorem el_rep {x : L2.V} {n : Nat} (hx : Ev te σ H x) (hn : Ev tb σ H (.int (n : Int))) (hl : n ≤ 100000) : EvL (tOp rRep (tLst (tCons te tNil)) tb) σ H (List.replicate n x) := fun H1 e Q q =>
  hx H1 e _ fun H2 e2 => ⟨sz_of (by show 1 ≤ 100000; omega), fun p hp => hn _ ((e.trans e2).trans (Ex.new hp)) _ fun H3 e3 =>
    ⟨p, (n : Int), [x], rfl, rfl, e3 _ _ upd_same, by omega, by omega, sz_of (by rw [Int.toNat_natCast]; show 1 * n ≤ 100000; omega), fun p2 hp2 => by
      have e4 : (List.replicate (n : Int).toNat [x]).flatten = List.replicate n x := by rw [Int.toNat_natCast, flat_rep]
      rw [e4]
      exact q p2 _ (fresh_back ((e2.trans (Ex.new hp)).trans e3) hp2) (((e2.trans (Ex.new hp)).trans e3).trans (Ex.new hp2)) upd_same⟩⟩
end
section
variable {P : Program} {w : World} {K : PySem.W.Frag} {mg : Str → Option Value} {base : Heap}
/-! ### _law_kept -/
def keptB (d : List Int) (t : Tie) : Bool := decide (t.2.2 ≤ dayOf d t.1 - dayOf d t.2.1)
def sp_law_kept (K : PySem.W.Frag) : Sp := fun vs H Q _ => ∃ (a : Addr) (d : List Int) (v : L2.V) (t : Tie), vs = [.ref a, v] ∧ IsInts K H a d ∧ IsTie K H v t ∧ GoodTie d.length t ∧ RetV (.bl (keptB d t)) H Q
theorem b_law_kept (k : Nat) : Body P w K mg base k "_law_kept" s_law_kept n_law_kept (sp_law_kept K) := by
  rintro f cdv A outer s H vs Q E hr ⟨a, d, v, t, rfl, hd, ⟨p, rfl, hp⟩, g, q⟩
  have nd' := sc_law_kept.nd
  refine ⟨_, pss_cons (ps_asg (pv 1) (pg_tup rfl (pgs_cons (pg_name (i := 2) nd' rfl (.inl rfl)) (pgs_cons (pg_name (i := 3) nd' rfl (.inl rfl)) (pgs_cons (pg_name (i := 4) nd' rfl (.inl rfl)) pgs_nil)))))
    (pss_cons (ps_set (i := 5) nd' rfl (.inl rfl) (pe_ifExp (pt_cmpR op_lt (pv 2) pe_int (nomark _)) pe_int (pe_ix ix_list (pv 0) (pv 2) (fun _ _ => rfl))))
    (pss_cons (ps_set (i := 6) nd' rfl (.inl rfl) (pe_ifExp (pt_cmpR op_lt (pv 3) pe_int (nomark _)) pe_int (pe_ix ix_list (pv 0) (pv 3) (fun _ _ => rfl))))
    (pss_one (ps_ret (pe_cmpR op_ge (pe_op op_sub (pv 5) (pv 6)) (pv 4) (nomark _)))))), ?_⟩
  refine ⟨_, rfl, p, _, rfl, hp, rfl, _, _, rfl, _, _, rfl, _, _, rfl, rfl, ?_⟩
  refine q_asg (v := .int (dayOf d t.1)) (ev_day hd g.a0 g.a1 (ev_var rfl) (ev_var rfl)) fun H1 e1 => q_asg (v := .int (dayOf d t.2.1)) (ev_day (ex_l e1 hd) g.b0 g.b1 (ev_var rfl) (ev_var rfl)) fun H2 e2 => ?_
  exact s_ret (ev_op (ev_op (ev_var rfl) (ev_var rfl) rv_sub) (ev_var rfl) rv_I0) fun H3 e3 => q H3 ((e1.trans e2).trans e3)
/-! ### _law_early -/
def sp_law_early (K : PySem.W.Frag) : Sp := fun vs H Q _ => ∃ (m : Nat) (a : Addr) (ts : List Tie), vs = [.int (m : Int), .ref a] ∧ 1 ≤ m ∧ m ≤ 10 ∧ IsTies K H a ts ∧ (∀ t ∈ ts, GoodTie m t) ∧ ts.length ≤ 1000 ∧ (∀ H', Ex H H' → Q .non H') ∧ ∀ d p H', Ex H H' → Way m ts d → Q (.ref p) H'
theorem b_law_early (G : Gs mg) {k : Nat} (C1 : C8.Cal P w K mg base k "_law_kept" (sp_law_kept K) []) {j : Nat} (hk : k ≤ j) : Body P w K mg base j "_law_early" s_law_early n_law_early (sp_law_early K) := by
  rintro f cdv A outer s H vs Q E hr ⟨m, a, ts, rfl, m0, m1, ⟨us, hu, hts⟩, hg, hlen, qn, qd⟩
  have nd' := sc_law_early.nd
  refine ⟨_, pss_cons (ps_set (i := 2) nd' rfl (.inr rfl) (pe_op op_rep (pe_lst (pa_cons pe_int pa_nil)) (pv 0)))
    (pss_cons (ps_set (i := 3) nd' rfl (.inl rfl) pe_bl)
    (pss_cons (ps_for PassesOwn.never rfl (pi_range1 rfl G.range (pa_cons (pe_op op_add (pv 0) pe_int) pa_nil)) (pg_name (i := 4) nd' rfl (.inl rfl))
      (pss_one (ps_if (pt_val (pv 3))
        (pss_cons (ps_set (i := 3) nd' rfl (.inl rfl) pe_bl)
        (pss_one (ps_for PassesOwn.never rfl (pi_list (pv 1)) (pg_tup rfl (pgs_cons (pg_name (i := 5) nd' rfl (.inl rfl)) (pgs_cons (pg_name (i := 6) nd' rfl (.inl rfl)) (pgs_cons (pg_name (i := 7) nd' rfl (.inl rfl)) pgs_nil))))
          (pss_cons (ps_set (i := 8) nd' rfl (.inl rfl) (pe_ifExp (pt_cmpR op_lt (pv 6) pe_int (nomark _)) pe_int (pe_ix ix_list (pv 2) (pv 6) (fun _ _ => rfl))))
          (pss_one (ps_if (PW.pt (pw_and (pt_cmpR op_ge (pv 5) pe_int (nomark _)) (pw_and1 (pt_cmpR op_gt (pe_op op_add (pv 8) (pv 7)) (pe_ix ix_list (pv 2) (pv 5) (fun _ _ => rfl)) (nomark _)))))
            (pss_cons (ps_asg (pe_op op_add (pv 8) (pv 7)) (pg_sub (pv 2) (pv 5) set_list)) (pss_one (ps_set (i := 3) nd' rfl (.inl rfl) pe_bl))) pss_nil))))))
        pss_nil)))
    (pss_cons (ps_if (PW.pt (pw_or (pt_val (pv 3)) (pw_or (pt_cmpR op_gt (pe_callB (cr_max rfl) rfl G.max PyProof.Rows.boot_max (pa_cons (pv 2) pa_nil)) pe_int (nomark _))
        (pw_or1 (pt_not (pt_val (pe_callB (cr_all rfl) rfl G.all PyProof.Rows.boot_all (pa_cons
          (pe_lc (own := [("_law_tie", 9)]) (g := gName 9) rfl nd' (pi_list (pv 1)) (blkOk_by (own := [("_law_tie", 9)]) (N := n_law_early) (sc := defScope s_law_early) (by decide +kernel))
            (fun _ _ _ _ _ => pg_name (i := 9) nd' rfl (.inl rfl)) (fun _ _ _ _ _ => pts_nil) (fun _ _ _ _ _ => C8.pe_c C1 hr hk rfl (pa_cons (pv 2) (pa_cons (pv 9) pa_nil)))) pa_nil)))))))) (pss_one (ps_ret pe_non)) pss_nil)
    (pss_one (ps_ret (pv 2)))))), ?_⟩
  have el : us.length = ts.length := hts.length
  refine q_asgL (el_rep ev_c (ev_var rfl) (by omega)) fun da H1 hp e1 h1 => q_asg ev_c fun H2 e2 => ?_
  have fa : H da = none := hp
  have h2 : H2 da = some (.lst ((List.replicate m (0 : Int)).map L2.V.int)) := by rw [List.map_replicate]; exact e2 _ _ h1
  refine q_forR1 (n := ((m + 2 : Nat) : Int)) (ea_cons (ev_op (ev_var rfl) ev_c rv_I0) ea_nil) ⟨by omega, by omega⟩ (fun r σ' H' => ∃ (d : List Int) (b : Bool) (x4 x5 x6 x7 x8 x9 : Option L2.V), σ' = [some (.int (m : Int)), some (.ref a), some (.ref da), some (.bl b), x4, x5, x6, x7, x8, x9] ∧ Ex H H' ∧
    H' da = some (.lst (d.map L2.V.int)) ∧ d.length = m ∧ ∀ x ∈ d, 0 ≤ x) ?_ ?_ ?_
  · intro H3 e3
    exact ⟨_, true, _, _, _, _, _, _, rfl, (e1.trans e2).trans e3, e3 _ _ h2, List.length_replicate, fun x hx => by rw [List.eq_of_mem_replicate hx]; exact Int.le_refl _⟩
  · rintro r σ' H' hr' ⟨d, b, x4, x5, x6, x7, x8, x9, rfl, ee, hd, hdl, hd0⟩
    refine s_when (b := b) (et_B (ev_var rfl)) (fun hb H3 e3 => ?_) (fun hb H3 e3 => ⟨d, b, _, _, _, _, _, _, rfl, ee.trans e3, e3 _ _ hd, hdl, hd0⟩)
    refine q_asg ev_c fun H4 e4 => ?_
    refine s_forL (K := K) (a := a) (xs := us) (ev_var rfl) (ex_l (ee.trans (e3.trans e4)) hu) (fun i σ' H' => ∃ (d : List Int) (b : Bool) (x5 x6 x7 x8 x9 : Option L2.V), σ' = [some (.int (m : Int)), some (.ref a), some (.ref da), some (.bl b), some (.int (r : Int)), x5, x6, x7, x8, x9] ∧ Ex H H' ∧
      H' da = some (.lst (d.map L2.V.int)) ∧ d.length = m ∧ ∀ x ∈ d, 0 ≤ x) ?_ ?_ ?_ ?_
    · intro H5 e5
      exact ⟨d, false, _, _, _, _, _, rfl, (ee.trans (e3.trans e4)).trans e5, ((e3.trans e4).trans e5) _ _ hd, hdl, hd0⟩
    · rintro i σ' H' _ ⟨_, _, _, _, _, _, _, _, ee, _⟩
      exact ex_l ee hu
    · rintro i x σ' H' hx ⟨d, b, x5, x6, x7, x8, x9, rfl, ee, hd, hdl, hd0⟩
      obtain ⟨u, hut, hxt⟩ := paired_at hts hx
      obtain ⟨p, rfl, hp⟩ := hxt.kp (Kp.of ee)
      have g := hg u (List.mem_of_getElem? hut)
      refine ⟨p, _, rfl, hp, rfl, _, _, rfl, _, _, rfl, _, _, rfl, rfl, ?_⟩
      refine q_asg (v := .int (dayOf d u.2.1)) (ev_day (sq_of hd) g.b0 (by rw [hdl]; exact g.b1) (ev_var rfl) (ev_var rfl)) fun H5 e5 => ?_
      have hd5 := e5 _ _ hd
      have day0 : 0 ≤ dayOf d u.2.1 := by
        unfold dayOf
        split
        · exact Int.le_refl _
        · exact getD_range (P := fun x => 0 ≤ x) hd0 (Int.le_refl _) _
      by_cases h0 : 0 ≤ u.1
      · refine s_when (et_and (et_test (ev_op (ev_var rfl) ev_c rv_I0)) fun _ => et_test (ev_op (ev_op (ev_var rfl) (ev_var rfl) rv_add) (ev_op (ev_var rfl) (ev_var rfl) (rv_ixL (sq_of hd5) (ints_atI h0 (by rw [hdl]; exact g.a1)))) rv_I0)) (fun hb H6 e6 => ?_) (fun hb H6 e6 => ?_)
        · rw [Bool.and_eq_true, decide_eq_true_eq, decide_eq_true_eq] at hb
          have hj : ixN (d.map L2.V.int).length u.1 = some u.1.toNat := by
            unfold ixN
            rw [if_pos h0, if_pos (by rw [List.length_map, hdl]; exact g.a1)]
          have hpos : 0 ≤ dayOf d u.2.1 + u.2.2 := by
            have := getD_range (P := fun x => 0 ≤ x) hd0 (Int.le_refl _) u.1.toNat
            have := hb.2
            omega
          refine q_setK (v := .int (dayOf d u.2.1 + u.2.2)) (e6 _ _ hd5) (ev_op (ev_var rfl) (ev_var rfl) rv_add) (ev_var rfl) (ev_var rfl) hj fun H7 e7 => s_asg ev_c fun H8 e8 => ?_
          refine ⟨d.set u.1.toNat (dayOf d u.2.1 + u.2.2), true, _, _, _, _, _, rfl, (Ex.mut (((ee.trans e5).trans e6).trans e7) fa).trans e8, ?_, by rw [List.length_set]; exact hdl, fun x hx => ?_⟩
          · rw [e8 _ _ upd_same, List.map_set]
          · rcases List.mem_or_eq_of_mem_set hx with hx | hx
            · exact hd0 x hx
            · rw [hx]
              exact hpos
        · exact ⟨d, b, _, _, _, _, _, rfl, (ee.trans e5).trans e6, e6 _ _ hd5, hdl, hd0⟩
      · refine s_when (et_and (b := true) (et_test (ev_op (ev_var rfl) ev_c rv_I0)) fun h => absurd (of_decide_eq_true h) h0) (fun hb H6 e6 => ?_) (fun hb H6 e6 => ?_)
        · rw [Bool.and_eq_true, decide_eq_true_eq] at hb
          exact absurd hb.1 h0
        · exact ⟨d, b, _, _, _, _, _, rfl, (ee.trans e5).trans e6, e6 _ _ hd5, hdl, hd0⟩
    · rintro σ' H' ⟨d, b, x5, x6, x7, x8, x9, rfl, ee, hd, hdl, hd0⟩
      exact ⟨d, b, _, _, _, _, _, _, rfl, ee, hd, hdl, hd0⟩
  · rintro σ' H' ⟨d, b, x4, x5, x6, x7, x8, x9, rfl, ee, hd, hdl, hd0⟩
    refine ⟨_, rfl, b, rfl, ?_⟩
    cases b with
    | true => exact ifT rfl (ifT rfl (qn H' ee))
    | false =>
      refine ifF rfl ⟨_, rfl, da, d, rfl, sq_of hd, by omega, fun mx hm1 hm2 => ⟨_, _, rfl, rfl, _, rfl, ?_⟩⟩
      by_cases hmx : 9999 < mx
      · exact ifT (decide_eq_true hmx) (ifT rfl (qn H' ee))
      · refine ifF (decide_eq_false hmx) ?_
        have hcomp := el_lcL (K := K) (a := a) (σ := [some (.int (m : Int)), some (.ref a), some (.ref da), some (.bl false), x4, x5, x6, x7, x8, x9]) (H := H') (j := 9) (vs := [9]) (xs := us) (tl := tVar 1) (fun _ => true) (fun i => L2.V.bl ((ts[i]?.map (keptB d)).getD true)) (t := tYes) (te := tCall (sp_law_kept K) [] C8.E0 (tCons (tVar 2) (tCons (tVar 9) tNil)))
          (ev_var rfl) (ex_l ee hu) (by omega) (fun x => rfl) (fun i x H1 _ _ H2 _ Q' q' => q' H2 (Ex.refl H2)) (fun i x H5 e5 hx _ => by
            obtain ⟨u, hut, hxt⟩ := paired_at hts hx
            refine ev_call (ea_cons (ev_var rfl) (ea_cons (ev_var rfl) ea_nil)) fun H6 e6 Q' q' E' => ⟨da, d, x, u, rfl, sq_of ((e5.trans e6) _ _ hd), hxt.kp (Kp.of ((ee.trans e5).trans e6)), by rw [hdl]; exact hg u (List.mem_of_getElem? hut), fun H7 e7 => ?_⟩
            rw [hut] at q'
            exact q' H7 e7)
        rw [given_all, range_map (l := ts) (g := fun t => L2.V.bl (keptB d t)) el.symm (fun i t ht => by rw [ht]; rfl)] at hcomp
        refine et_not (et_B (ev_cbL hcomp fun p H5 h5 _ => rc_all (bs := ts.map (keptB d)) (b := ts.all (keptB d)) (sq_of (by rw [h5, List.map_map]; rfl)) (by rw [List.all_map]; rfl))) H' (Ex.refl H') _ fun H6 e6 => ?_
        cases hk : ts.all (keptB d) with
        | false => exact ifT rfl (qn H6 (ee.trans e6))
        | true =>
          refine ifF rfl ⟨_, rfl, qd d da H6 (ee.trans e6) ⟨hdl, hd0, fun x hx => ?_, fun t ht => ?_⟩⟩
          · have := hm2 x hx
            omega
          · exact of_decide_eq_true (List.all_eq_true.mp hk t ht)
end
end Lh
namespace Lh
open PySem PySem.Spec PyProof.Rows L2 Evl
theorem boundT_snoc (i : Nat) : boundT (i + 1) = boundT i ++ [((i : Int), -1, 0), (-1, (i : Int), -9999)] := by
  unfold boundT
  rw [List.range_succ, List.flatMap_append]
  rfl
theorem boundT_len : ∀ i : Nat, (boundT i).length = 2 * i
  | 0 => rfl
  | i + 1 => by
    rw [boundT_snoc, List.length_append, boundT_len i]
    simp
    omega
theorem boundT_good {m : Nat} : ∀ t ∈ boundT m, GoodTie m t := fun t ht => by
  unfold boundT at ht
  obtain ⟨i, hi, ht⟩ := List.mem_flatMap.mp ht
  have hi := List.mem_range.mp hi
  rcases List.mem_cons.mp ht with ht | ht
  · subst ht
    exact ⟨by show (-1 : Int) ≤ i; omega, by show (i : Int) < m; omega, Int.le_refl _, by show (-1 : Int) < m; omega, by show (i : Int) ≠ -1; omega⟩
  · rw [List.mem_singleton.mp ht]
    exact ⟨Int.le_refl _, by show (-1 : Int) < m; omega, by show (-1 : Int) ≤ i; omega, by show (i : Int) < m; omega, by show (-1 : Int) ≠ (i : Int); omega⟩
theorem relax_set {m : Nat} {f : Nat → Int} {t : Tie} {v : Int} (hv : v = max (f (nd m t.1)) (f (nd m t.2.1) + t.2.2)) : (fun i => if i = nd m t.1 then v else f i) = relax f (edgeOf m t) := by
  funext i
  unfold relax edgeOf
  show (if i = nd m t.1 then v else f i) = if i = nd m t.1 then max (f (nd m t.1)) (f (nd m t.2.1) + t.2.2) else f i
  rw [hv]
section
variable {P : Program} {w : World} {K : PySem.W.Frag} {mg : Str → Option Value} {base : Heap}
/-- steps = steps + [..] -/
theorem q_catTs {K : PySem.W.Frag} {σ : L2.St} {H : Hp} {ta te : TE} {ts : List Tie} {D : Ends} {tz : TS} {i : Nat} {l : Addr} {xs : List L2.V} (hl : H l = some (.lst xs)) (ha : Ev ta σ H (.ref l)) (h : EvLT K te σ H ts) (hz : xs.length + ts.length ≤ 100000)
    (k : ∀ p H1 vs, H p = none → Ex H H1 → H1 p = some (.lst (xs ++ vs)) → TiesV K H1 vs ts → tz D (σ.set i (some (.ref p))) H1) : tSeq (tAsg (tOp rCat ta te) (gName i)) tz D σ H :=
  ha H (Ex.refl H) _ fun H1 e1 => h H1 e1 _ fun b H2 vs _ e2 hb hv => ⟨l, b, xs, vs, rfl, rfl, (e1.trans e2) l _ hl, hb, sz_of (by rw [hv.length]; exact hz), fun p hp =>
    k p _ vs (fresh_back (e1.trans e2) hp) ((e1.trans e2).trans (Ex.new hp)) upd_same (hv.kp (Kp.of (Ex.new hp)))⟩
theorem s_catTs {K : PySem.W.Frag} {σ : L2.St} {H : Hp} {ta te : TE} {ts : List Tie} {D : Ends} {i : Nat} {l : Addr} {xs : List L2.V} (hl : H l = some (.lst xs)) (ha : Ev ta σ H (.ref l)) (h : EvLT K te σ H ts) (hz : xs.length + ts.length ≤ 100000)
    (k : ∀ p H1 vs, H p = none → Ex H H1 → H1 p = some (.lst (xs ++ vs)) → TiesV K H1 vs ts → D.nx (σ.set i (some (.ref p))) H1) : tAsg (tOp rCat ta te) (gName i) D σ H :=
  ha H (Ex.refl H) _ fun H1 e1 => h H1 e1 _ fun b H2 vs _ e2 hb hv => ⟨l, b, xs, vs, rfl, rfl, (e1.trans e2) l _ hl, hb, sz_of (by rw [hv.length]; exact hz), fun p hp =>
    k p _ vs (fresh_back (e1.trans e2) hp) ((e1.trans e2).trans (Ex.new hp)) upd_same (hv.kp (Kp.of (Ex.new hp)))⟩
def sp_law_gap (K : PySem.W.Frag) : Sp := fun vs H Q _ => ∃ (m : Nat) (a : Addr) (ts : List Tie) (i o : Int), vs = [.int (m : Int), .ref a, .int i, .int o] ∧ m ≤ 10 ∧ IsTies K H a ts ∧ (∀ t ∈ ts, GoodTie m t) ∧ ts.length ≤ 1000 ∧ -1 ≤ i ∧ i < m ∧ -1 ≤ o ∧ o < m ∧ RetV (.int (gapOf m ts (nd m o) (nd m i))) H Q
theorem b_law_gap (G : Gs mg) (k : Nat) : Body P w K mg base k "_law_gap" s_law_gap n_law_gap (sp_law_gap K) := by
  rintro f cdv A outer s H vs Q E hr ⟨m, a, ts, i, o, rfl, hm, ⟨us, hu, hts⟩, hg, hlen, i0, i1, o0, o1, q⟩
  have nd' := sc_law_gap.nd
  refine ⟨_, pss_cons (ps_set (i := 4) nd' rfl (.inl rfl) (pe_callTy call_list_of rfl G.list PyProof.Rows.boot_list (pa_cons (pv 1) pa_nil)))
    (pss_cons (ps_for PassesOwn.never rfl (pi_range1 rfl G.range (pa_cons (pv 0) pa_nil)) (pg_name (i := 5) nd' rfl (.inl rfl))
      (pss_one (ps_set (i := 4) nd' rfl (.inl rfl) (pe_op op_cat (pv 4) (pe_lst (pa_cons (pe_tup (pa_cons (pv 5) (pa_cons (pe_un un_neg pe_int) (pa_cons pe_int pa_nil)))) (pa_cons (pe_tup (pa_cons (pe_un un_neg pe_int) (pa_cons (pv 5) (pa_cons (pe_un un_neg pe_int) pa_nil)))) pa_nil)))))))
    (pss_cons (ps_set (i := 6) nd' rfl (.inl rfl) (pe_op op_rep (pe_lst (pa_cons (pe_un un_neg (pe_op op_pow pe_int pe_int)) pa_nil)) (pe_op op_add (pv 0) pe_int)))
    (pss_cons (ps_asg pe_int (pg_sub (pv 6) (pv 3) set_list))
    (pss_cons (ps_for PassesOwn.never rfl (pi_range1 rfl G.range (pa_cons (pe_op op_add (pv 0) pe_int) pa_nil)) (pg_name (i := 7) nd' rfl (.inl rfl))
      (pss_one (ps_for PassesOwn.never rfl (pi_list (pv 4)) (pg_tup rfl (pgs_cons (pg_name (i := 8) nd' rfl (.inl rfl)) (pgs_cons (pg_name (i := 9) nd' rfl (.inl rfl)) (pgs_cons (pg_name (i := 10) nd' rfl (.inl rfl)) pgs_nil))))
        (pss_one (ps_asg (pe_callB (call_max2 rfl) rfl G.max PyProof.Rows.boot_max (pa_cons (pe_ix ix_list (pv 6) (pv 8) (fun _ _ => rfl)) (pa_cons (pe_op op_add (pe_ix ix_list (pv 6) (pv 9) (fun _ _ => rfl)) (pv 10)) pa_nil))) (pg_sub (pv 6) (pv 8) set_list))))))
    (pss_one (ps_ret (pe_ix ix_list (pv 6) (pv 2) (fun _ _ => rfl)))))))), ?_⟩
  have el : us.length = ts.length := hts.length
  -- steps
  refine q_asgL (xs := us) (fun H1 e1 Q' q' => ⟨.ref a, rfl, a, us, rfl, .inl (ex_l e1 hu), fun l hl => q' l _ hl (Ex.new hl) upd_same⟩) fun sa H1 hp e1 h1 => ?_
  refine q_forR1 (n := (m : Int)) (ea_cons (ev_var rfl) ea_nil) ⟨by omega, by omega⟩ (fun n σ' H' => ∃ (sa : Addr) (vs : List L2.V) (x5 x6 x7 x8 x9 x10 : Option L2.V), σ' = [some (.int (m : Int)), some (.ref a), some (.int i), some (.int o), some (.ref sa), x5, x6, x7, x8, x9, x10] ∧ Ex H H' ∧
    H' sa = some (.lst vs) ∧ TiesV K H' vs (ts ++ boundT n)) ?_ ?_ ?_
  · intro H2 e2
    refine ⟨sa, us, _, _, _, _, _, _, rfl, e1.trans e2, e2 _ _ h1, ?_⟩
    have e0 : boundT 0 = [] := rfl
    rw [e0, List.append_nil]
    exact hts.kp (Kp.of (e1.trans e2))
  · rintro n σ' H' hn ⟨sa, vs, x5, x6, x7, x8, x9, x10, rfl, ee, h2, hv⟩
    have lv : vs.length ≤ 1020 := by
      rw [hv.length, List.length_append, boundT_len]
      omega
    refine s_catTs (K := K) (ts := [((n : Int), -1, 0), (-1, (n : Int), -9999)]) h2 (ev_var rfl) (elt_lst (ets_cons (ev_var rfl) (ev_un ev_c ru_neg) ev_c (ets_cons (ev_un ev_c ru_neg) (ev_var rfl) (ev_un ev_c ru_neg) ets_nil)) (by show 2 ≤ 100000; omega)) (by show vs.length + 2 ≤ 100000; omega) fun p H3 zs _ e3 h3 hz => ?_
    refine ⟨p, vs ++ zs, _, _, _, _, _, _, rfl, ee.trans e3, h3, ?_⟩
    rw [boundT_snoc, ← List.append_assoc]
    exact paired_app (hv.kp (Kp.of e3)) hz
  rintro σ' H2 ⟨sa, vs, x5, x6, x7, x8, x9, x10, rfl, ee, h2, hv⟩
  rw [Int.toNat_natCast] at hv
  -- far
  refine q_asgL (el_rep (x := .int (-1000000000)) (n := m + 1) (ev_is (ev_un (ev_op ev_c ev_c (rv_I (show CPow 10 9 from ⟨by decide, by decide, by decide⟩))) ru_neg) rfl) (ev_op (ev_var rfl) ev_c rv_I0) (by omega)) fun fa H3 fp e3 h3 => ?_
  have hfa : H fa = none := fresh_back ee fp
  have rep : List.replicate (m + 1) (L2.V.int (-1000000000)) = rowV (m + 1) (fun _ => -1000000000) := by
    unfold rowV
    rw [List.map_const', List.length_range]
  rw [rep] at h3
  refine q_setK (v := .int 0) h3 ev_c (ev_var rfl) (ev_var rfl) (by rw [rowV_len]; exact ixN_nd o0 o1) fun H4 e4 => ?_
  rw [rowV_set (by have := nd_le o0 o1; omega)]
  have o5 : upd H4 fa (.lst (rowV (m + 1) fun i => if i = nd m o then 0 else -1000000000)) fa = some (.lst (rowV (m + 1) (far0 (nd m o)))) := upd_same
  have x5' : Ex H (upd H4 fa (.lst (rowV (m + 1) fun i => if i = nd m o then 0 else -1000000000))) := Ex.mut (ee.trans (e3.trans e4)) hfa
  have nsf : sa ≠ fa := ne_of_none h2 fp
  have s5 : upd H4 fa (.lst (rowV (m + 1) fun i => if i = nd m o then 0 else -1000000000)) sa = some (.lst vs) := by rw [upd_ne nsf]; exact (e3.trans e4) _ _ h2
  have v5 : TiesV K (upd H4 fa (.lst (rowV (m + 1) fun i => if i = nd m o then 0 else -1000000000))) vs (ts ++ boundT m) := (hv.kp (Kp.of (e3.trans e4))).lst (e4 _ _ h3)
  generalize upd H4 fa (.lst (rowV (m + 1) fun i => if i = nd m o then 0 else -1000000000)) = G5 at o5 x5' s5 v5
  have lv : vs.length = (ts ++ boundT m).length := v5.length
  have goodAll : ∀ t ∈ ts ++ boundT m, GoodTie m t := fun t ht => (List.mem_append.mp ht).elim (hg t) (boundT_good t)
  refine q_forR1 (n := ((m + 2 : Nat) : Int)) (ea_cons (ev_op (ev_var rfl) ev_c rv_I0) ea_nil) ⟨by omega, by omega⟩ (fun r σ' H' => ∃ (x7 x8 x9 x10 : Option L2.V), σ' = [some (.int (m : Int)), some (.ref a), some (.int i), some (.int o), some (.ref sa), x5, some (.ref fa), x7, x8, x9, x10] ∧ Ex H H' ∧
    H' sa = some (.lst vs) ∧ TiesV K H' vs (ts ++ boundT m) ∧ H' fa = some (.lst (rowV (m + 1) (rounds ((ts ++ boundT m).map (edgeOf m)) (far0 (nd m o)) r)))) ?_ ?_ ?_
  · intro H6 e6
    exact ⟨_, _, _, _, rfl, x5'.trans e6, e6 _ _ s5, v5.kp (Kp.of e6), e6 _ _ o5⟩
  · rintro r σ' H' hr' ⟨x7, x8, x9, x10, rfl, ee, hs, hvv, hf⟩
    refine s_forL (K := K) (a := sa) (xs := vs) (ev_var rfl) (sq_of hs) (fun n σ' H' => ∃ (x8 x9 x10 : Option L2.V), σ' = [some (.int (m : Int)), some (.ref a), some (.int i), some (.int o), some (.ref sa), x5, some (.ref fa), some (.int (r : Int)), x8, x9, x10] ∧ Ex H H' ∧
      H' sa = some (.lst vs) ∧ TiesV K H' vs (ts ++ boundT m) ∧ H' fa = some (.lst (rowV (m + 1) ((((ts ++ boundT m).map (edgeOf m)).take n).foldl relax (rounds ((ts ++ boundT m).map (edgeOf m)) (far0 (nd m o)) r))))) ?_ ?_ ?_ ?_
    · intro H6 e6
      exact ⟨_, _, _, rfl, ee.trans e6, e6 _ _ hs, hvv.kp (Kp.of e6), e6 _ _ hf⟩
    · rintro n σ' H' _ ⟨_, _, _, _, _, h, _⟩
      exact sq_of h
    · rintro n x σ' H' hx ⟨x8, x9, x10, rfl, ee, hs, hvv, hf⟩
      obtain ⟨u, hut, p, rfl, hp⟩ := paired_at hvv hx
      have g := goodAll u (List.mem_of_getElem? hut)
      refine ⟨p, _, rfl, hp, rfl, _, _, rfl, _, _, rfl, _, _, rfl, rfl, ?_⟩
      generalize hcur : (((ts ++ boundT m).map (edgeOf m)).take n).foldl relax (rounds ((ts ++ boundT m).map (edgeOf m)) (far0 (nd m o)) r) = cur at hf
      refine s_setK (v := .int (max (cur (nd m u.1)) (cur (nd m u.2.1) + u.2.2))) hf (ev_is (ev_max2 (ev_op (ev_var rfl) (ev_var rfl) (rv_ixL (sq_of hf) (atI_nd g.a0 g.a1))) (ev_op (ev_op (ev_var rfl) (ev_var rfl) (rv_ixL (sq_of hf) (atI_nd g.b0 g.b1))) (ev_var rfl) rv_add)) (by rw [ifMax])) (ev_var rfl) (ev_var rfl) (by rw [rowV_len]; exact ixN_nd g.a0 g.a1) fun H6 e6 => ?_
      rw [rowV_set (by have := nd_le g.a0 g.a1; omega), relax_set rfl]
      refine ⟨_, _, _, rfl, Ex.mut (ee.trans e6) hfa, by rw [upd_ne nsf]; exact e6 _ _ hs, (hvv.kp (Kp.of e6)).lst (e6 _ _ hf), ?_⟩
      rw [upd_same, List.take_add_one, List.foldl_append, hcur, List.getElem?_map, hut]
      rfl
    · rintro σ' H' ⟨x8, x9, x10, rfl, ee, hs, hvv, hf⟩
      rw [List.take_of_length_le (by rw [List.length_map, lv]; exact Nat.le_refl _)] at hf
      exact ⟨_, _, _, _, rfl, ee, hs, hvv, hf⟩
  · rintro σ' H' ⟨x7, x8, x9, x10, rfl, ee, hs, hvv, hf⟩
    exact s_ret (ev_op (ev_var rfl) (ev_var rfl) (rv_ixL (sq_of hf) (atI_nd i0 i1))) fun H6 e6 => q H6 (ee.trans e6)
end
end Lh
namespace Lh
open PySem PySem.Spec PyProof.Rows L2 Evl
theorem mod_big {i j : Int} (hj : 0 < j) (hb : j ≤ 2147483647) : -(2 ^ 64) < i % j ∧ i % j < 2 ^ 64 := by
  have h1 := Int.emod_nonneg i (Int.ne_of_gt hj)
  have h2 := Int.emod_lt_of_pos i hj
  omega
section
variable {P : Program} {w : World} {K : PySem.W.Frag} {mg : Str → Option Value} {base : Heap}
/-! ### _law_mix, _law_raw, _law_digits -/
def AnyInt (H : Hp) (Q : VK) : Prop := ∀ (z : Int) H', Ex H H' → Q (.int z) H'
def sp_law_mix : Sp := fun vs H Q _ => ∃ i : Int, vs = [.int i] ∧ AnyInt H Q
theorem b_law_mix (k : Nat) : Body P w K mg base k "_law_mix" s_law_mix n_law_mix sp_law_mix := by
  rintro f cdv A outer s H vs Q E hr ⟨i, rfl, q⟩
  have nd' := sc_law_mix.nd
  refine ⟨_, pss_cons (ps_set (i := 1) nd' rfl (.inl rfl) (pe_op op_mod (pe_op op_add (pe_op op_mul (pv 0) pe_int) pe_int) pe_int))
    (pss_cons (ps_set (i := 2) nd' rfl (.inl rfl) (pe_op op_mod (pe_op op_add (pe_op op_add (pe_op op_mul (pv 1) (pv 1)) (pe_op op_mul pe_int (pv 1))) (pv 0)) pe_int))
    (pss_one (ps_ret (pe_op op_mod (pe_op op_add (pe_op op_add (pe_op op_mul (pv 2) (pv 2)) (pe_op op_mul pe_int (pv 2))) (pv 1)) pe_int)))), ?_⟩
  refine q_asg (v := .int ((i * 48271 + 11) % 2147483647)) (ev_op (ev_op (ev_op (ev_var rfl) ev_c (rv_I (.inr ⟨by decide, by decide⟩))) ev_c rv_add) ev_c (rv_I (show (0 : Int) < 2147483647 by decide))) fun H1 e1 => ?_
  have b1 := mod_big (i := i * 48271 + 11) (j := 2147483647) (by decide) (by decide)
  generalize (i * 48271 + 11) % 2147483647 = x at b1
  refine q_asg (v := .int ((x * x + 40692 * x + i) % 2147483399)) (ev_op (ev_op (ev_op (ev_op (ev_var rfl) (ev_var rfl) (rv_I (.inl b1))) (ev_op ev_c (ev_var rfl) (rv_I (.inr b1))) rv_add) (ev_var rfl) rv_add) ev_c (rv_I (show (0 : Int) < 2147483399 by decide))) fun H2 e2 => ?_
  have b2 := mod_big (i := x * x + 40692 * x + i) (j := 2147483399) (by decide) (by decide)
  generalize (x * x + 40692 * x + i) % 2147483399 = y at b2
  exact s_ret (v := .int ((y * y + 69621 * y + x) % 2147483563)) (ev_op (ev_op (ev_op (ev_op (ev_var rfl) (ev_var rfl) (rv_I (.inl b2))) (ev_op ev_c (ev_var rfl) (rv_I (.inr b2))) rv_add) (ev_var rfl) rv_add) ev_c (rv_I (show (0 : Int) < 2147483563 by decide))) fun H3 e3 => q _ H3 ((e1.trans e2).trans e3)
def sp_law_raw (K : PySem.W.Frag) : Sp := fun vs H Q _ => ∃ (a : Addr) (ns : List Int) (k : Int), vs = [.ref a, .int k] ∧ IsInts K H a ns ∧ ns.length ≤ 63 ∧ 0 ≤ k ∧ k ≤ 1000000 ∧ AnyInt H Q
theorem b_law_raw (G : Gs mg) {k : Nat} (C1 : C8.Cal P w K mg base k "_law_mix" sp_law_mix []) {j : Nat} (hk : k ≤ j) : Body P w K mg base j "_law_raw" s_law_raw n_law_raw (sp_law_raw K) := by
  rintro f cdv A outer s H vs Q E hr ⟨a, ns, k0, rfl, hn, hl, h0, h1, q⟩
  have nd' := sc_law_raw.nd
  have LEN : ∀ {X : Cx} {p pos : Pos} {e : Expr} {te : TE}, True := fun {_ _ _ _ _} => trivial
  refine ⟨_, pss_cons (ps_set (i := 2) nd' rfl (.inl rfl) (pe_op op_add (pe_op op_mul pe_int (pv 1)) pe_int))
    (pss_cons (ps_if (pt_cmpR op_gt (pe_callB call_len_seq rfl G.len PySem.boot_len (pa_cons (pv 0) pa_nil)) pe_int (nomark _))
      (pss_one (ps_set (i := 2) nd' rfl (.inl rfl) (pe_op op_add (pe_ix ix_list (pv 0) (pe_op op_mod (pv 1) (pe_callB call_len_seq rfl G.len PySem.boot_len (pa_cons (pv 0) pa_nil))) (fun _ _ => rfl)) (pe_op op_mul pe_int (pe_op op_fdiv (pv 1) (pe_callB call_len_seq rfl G.len PySem.boot_len (pa_cons (pv 0) pa_nil))))))) pss_nil)
    (pss_cons (ps_if (PW.pt (pw_and (pt_cmpR op_lt (pv 1) (pe_callB call_len_seq rfl G.len PySem.boot_len (pa_cons (pv 0) pa_nil)) (nomark _)) (pw_and1 (pt_cmpR op_ge (pv 2) (pe_op op_pow pe_int pe_int) (nomark _)))))
      (pss_one (ps_ret (pe_op op_sub (pv 2) (pe_op op_pow pe_int pe_int)))) pss_nil)
    (pss_cons (ps_set (i := 3) nd' rfl (.inl rfl) pe_int)
    (pss_cons (ps_for PassesOwn.never rfl (pi_range1 rfl G.range (pa_cons pe_int pa_nil)) (pg_name (i := 4) nd' rfl (.inl rfl))
      (pss_one (ps_set (i := 3) nd' rfl (.inl rfl) (pe_op op_add (pe_op op_mul (pv 3) pe_int) (C8.pe_c C1 hr hk rfl (pa_cons (pe_op op_add (pe_op op_add (pv 2) (pe_op op_mul pe_int (pv 1))) (pe_op op_mul pe_int (pv 4))) pa_nil))))))
    (pss_one (ps_ret (pv 3))))))), ?_⟩
  have len : ∀ {σ : L2.St} {H' : Hp}, σ[0]? = some (some (.ref a)) → Ex H H' → Ev (tCB (rLenS K) (tCons (tVar 0) tNil)) σ H' (.int (ns.length : Int)) := fun hσ e => ev_is (ev_len (ev_var hσ) (ex_l e hn)) (by rw [List.length_map])
  -- behind the cell
  have rest : ∀ (c : Int) (H2 : Hp), Ex H H2 → ∀ (σ : L2.St), σ = [some (.ref a), some (.int k0), some (.int c), none, none] → tSeq (tIfS (tAnd (tTest (tOp (rI0 fun i j => .bl (decide (i < j))) (tVar 1) (tCB (rLenS K) (tCons (tVar 0) tNil)))) (tTest (tOp (rI0 fun i j => .bl (decide (j ≤ i))) (tVar 2) (tOp (rI CPow fun i j => .int (i ^ j.toNat)) (tC (.int 10)) (tC (.int 18))))))
      (tRet (tOp (rI0 fun i j => .int (i - j)) (tVar 2) (tOp (rI CPow fun i j => .int (i ^ j.toNat)) (tC (.int 10)) (tC (.int 18))))) tNext)
      (tSeq (tAsg (tC (.int 0)) (gName 3)) (tSeq (tFor (iRng1 (tCons (tC (.int 40)) tNil)) (gName 4) (tAsg (tOp (rI0 fun i j => .int (i + j)) (tOp (rI CMul fun i j => .int (i * j)) (tVar 3) (tC (.int 2147483563)))
        (tCall sp_law_mix [] C8.E0 (tCons (tOp (rI0 fun i j => .int (i + j)) (tOp (rI0 fun i j => .int (i + j)) (tVar 2) (tOp (rI CMul fun i j => .int (i * j)) (tC (.int 1009)) (tVar 1))) (tOp (rI CMul fun i j => .int (i * j)) (tC (.int 7919)) (tVar 4))) tNil))) (gName 3))) (tRet (tVar 3)))) { nx := fun _ H' => Q .non H', rt := Q } σ H2 := by
    rintro c H2 e2 _ rfl
    have pw : RV (rI CPow fun i j => .int (i ^ j.toNat)) (.int 10) (.int 18) H2 (.int (10 ^ (18 : Int).toNat)) := rv_I (show CPow 10 18 from ⟨by decide, by decide, by decide⟩)
    refine q_when (et_and (et_test (ev_op (ev_var rfl) (len rfl e2) rv_I0)) fun _ => et_test (ev_op (ev_var rfl) (ev_op ev_c ev_c pw) rv_I0)) (fun _ H3 e3 => ?_) (fun _ H3 e3 => ?_)
    · exact s_ret (ev_op (ev_var rfl) (ev_op ev_c ev_c (rv_I (show CPow 10 18 from ⟨by decide, by decide, by decide⟩))) rv_sub) fun H4 e4 => q _ H4 ((e2.trans e3).trans e4)
    · refine q_asg ev_c fun H4 e4 => ?_
      refine q_forR1 (n := 40) (ea_cons ev_c ea_nil) ⟨by omega, by omega⟩ (fun i σ' H' => ∃ (x : Int) (x4 : Option L2.V), σ' = [some (.ref a), some (.int k0), some (.int c), some (.int x), x4] ∧ Ex H H') (fun H5 e5 => ⟨_, _, rfl, ((e2.trans e3).trans e4).trans e5⟩) ?_ ?_
      · rintro i σ' H' hi ⟨x, x4, rfl, ee⟩
        refine ⟨_, rfl, _, _, rfl, rfl, .inr ⟨by decide, by decide⟩, ?_⟩
        refine ⟨_, rfl, _, rfl, _, _, rfl, rfl, .inl ⟨by decide, by decide⟩, _, _, rfl, rfl, _, rfl, _, _, rfl, rfl, .inl ⟨by decide, by decide⟩, _, _, rfl, rfl, ?_⟩
        exact ⟨_, rfl, fun z H5 e5 => ⟨_, _, rfl, rfl, _, _, rfl, ee.trans e5⟩⟩
      · rintro σ' H' ⟨x, x4, rfl, ee⟩
        exact s_ret (ev_var rfl) fun H5 e5 => q _ H5 (ee.trans e5)
  refine q_asg (v := .int (7 * k0 + 3)) (ev_op (ev_op ev_c (ev_var rfl) (rv_I (.inl ⟨by decide, by decide⟩))) ev_c rv_add) fun H1 e1 => ?_
  refine q_when (et_test (ev_op (len rfl e1) ev_c rv_I0)) (fun hb H2 e2 => ?_) (fun hb H2 e2 => rest _ H2 (e1.trans e2) _ rfl)
  have hpos : (0 : Int) < (ns.length : Int) := of_decide_eq_true hb
  have i0 := Int.emod_nonneg k0 (Int.ne_of_gt hpos)
  have i1 := Int.emod_lt_of_pos k0 hpos
  exact s_asg (v := .int (ns.getD (k0 % (ns.length : Int)).toNat 0 + 9973 * (k0 / (ns.length : Int)))) (ev_op (ev_op (ev_var rfl) (ev_op (ev_var rfl) (len rfl (e1.trans e2)) (rv_I hpos)) (rv_ixL (ex_l (e1.trans e2) hn) (ints_atI i0 i1)))
    (ev_op ev_c (ev_op (ev_var rfl) (len rfl (e1.trans e2)) (rv_I ⟨hpos, by omega⟩)) (rv_I (.inl ⟨by decide, by decide⟩))) rv_add) fun H3 e3 => rest _ H3 ((e1.trans e2).trans e3) _ rfl
def Below (xs sizes : List Int) : Prop := Paired (fun x s : Int => 0 ≤ x ∧ x < s) xs sizes
def sp_law_digits (K : PySem.W.Frag) : Sp := fun vs H Q _ => ∃ (a b : Addr) (ns sizes : List Int) (k : Int), vs = [.ref a, .int k, .ref b] ∧ IsInts K H a ns ∧ ns.length ≤ 63 ∧ 0 ≤ k ∧ k ≤ 1000000 ∧ IsInts K H b sizes ∧ sizes.length ≤ 100 ∧ (∀ s ∈ sizes, 0 < s ∧ s < 1073741824) ∧
  ∀ (xs : List Int) p H', Ex H H' → H p = none → H' p = some (.lst (xs.map L2.V.int)) → Below xs sizes → Q (.ref p) H'
theorem b_law_digits {k : Nat} (C1 : C8.Cal P w K mg base k "_law_raw" (sp_law_raw K) []) {j : Nat} (hk : k ≤ j) : Body P w K mg base j "_law_digits" s_law_digits n_law_digits (sp_law_digits K) := by
  rintro f cdv A outer s H vs Q E hr ⟨a, b, ns, sizes, k0, rfl, hn, hl, h0, h1, hs, hsl, hsz, q⟩
  have nd' := sc_law_digits.nd
  refine ⟨_, pss_cons (ps_set (i := 3) nd' rfl (.inl rfl) (C8.pe_c C1 hr hk rfl (pa_cons (pv 0) (pa_cons (pv 1) pa_nil))))
    (pss_cons (ps_set (i := 4) nd' rfl (.inl rfl) (pe_lst pa_nil))
    (pss_cons (ps_for PassesOwn.never rfl (pi_list (pv 2)) (pg_name (i := 5) nd' rfl (.inl rfl))
      (pss_cons (ps_expr (pe_bm PySem.F.plainAttrs_list PySem.F.slot_list_append PySem.F.type_list_append mt_append (pv 4) (pa_cons (pe_op op_mod (pv 3) (pv 5)) pa_nil)))
      (pss_one (ps_set (i := 3) nd' rfl (.inl rfl) (pe_op op_fdiv (pv 3) (pv 5))))))
    (pss_one (ps_ret (pv 4))))), ?_⟩
  refine ⟨_, rfl, _, rfl, a, ns, k0, rfl, hn, hl, h0, h1, fun z H1 e1 => ?_⟩
  refine q_asgL (el_lst ea_nil (Nat.zero_le _)) fun fo H2 ff e2 h2 => ?_
  have ffo : H fo = none := fresh_back e1 ff
  refine q_forL (K := K) (a := b) (xs := sizes.map L2.V.int) (ev_var rfl) (ex_l (e1.trans e2) hs) (fun i σ' H' => ∃ (r : Int) (x5 : Option L2.V) (xs : List Int), σ' = [some (.ref a), some (.int k0), some (.ref b), some (.int r), some (.ref fo), x5] ∧ Ex H H' ∧ H' fo = some (.lst (xs.map L2.V.int)) ∧ Below xs (sizes.take i)) ?_ ?_ ?_ ?_
  · intro H3 e3
    exact ⟨z, _, [], rfl, (e1.trans e2).trans e3, e3 _ _ h2, .nil⟩
  · rintro i σ' H' _ ⟨_, _, _, _, ee, _⟩
    exact ex_l ee hs
  · rintro i x σ' H' hx ⟨r, x5, xs, rfl, ee, h3, hB⟩
    obtain ⟨sz, hsz2, rfl⟩ := ints_get hx
    obtain ⟨s0, s1⟩ := hsz sz (List.mem_of_getElem? hsz2)
    have lx : xs.length ≤ 100 := by
      have := hB.length
      rw [List.length_take] at this
      omega
    refine q_app (v := .int (r % sz)) h3 (ev_var rfl) (ev_op (ev_var rfl) (ev_var rfl) (rv_I s0)) (by rw [List.length_map]; omega) fun H4 e4 => ?_
    have ee4 : Ex H (upd H4 fo (.lst (xs.map L2.V.int ++ [.int (r % sz)]))) := Ex.mut (ee.trans e4) ffo
    have h4 : upd H4 fo (.lst (xs.map L2.V.int ++ [.int (r % sz)])) fo = some (.lst ((xs ++ [r % sz]).map L2.V.int)) := by rw [upd_same, List.map_append]; rfl
    generalize upd H4 fo (.lst (xs.map L2.V.int ++ [.int (r % sz)])) = G4 at ee4 h4
    refine s_asg (v := .int (r / sz)) (ev_op (ev_var rfl) (ev_var rfl) (rv_I ⟨s0, s1⟩)) fun H5 e5 => ⟨_, _, xs ++ [r % sz], rfl, ee4.trans e5, e5 _ _ h4, ?_⟩
    rw [List.take_add_one, hsz2]
    exact paired_app hB (.cons ⟨Int.emod_nonneg r (Int.ne_of_gt s0), Int.emod_lt_of_pos r s0⟩ .nil)
  · rintro σ' H' ⟨r, x5, xs, rfl, ee, h3, hB⟩
    rw [List.length_map, List.take_of_length_le (Nat.le_refl _)] at hB
    exact s_ret (ev_var rfl) fun H4 e4 => q xs fo H4 (ee.trans e4) ffo (e4 _ _ h3) hB
end
end Lh
namespace Lh
open PySem PySem.Spec PyProof.Rows L2 Evl
theorem below4 {xs : List Int} {a b c d : Int} (h : Below xs [a, b, c, d]) : ∃ x y z u, xs = [x, y, z, u] ∧ (0 ≤ x ∧ x < a) ∧ (0 ≤ y ∧ y < b) ∧ (0 ≤ z ∧ z < c) ∧ (0 ≤ u ∧ u < d) := by
  cases h with
  | cons h1 t =>
    cases t with
    | cons h2 t =>
      cases t with
      | cons h3 t =>
        cases t with
        | cons h4 t =>
          cases t
          exact ⟨_, _, _, _, rfl, h1, h2, h3, h4⟩
theorem below5 {xs : List Int} {a b c d e : Int} (h : Below xs [a, b, c, d, e]) : ∃ x y z u v, xs = [x, y, z, u, v] ∧ (0 ≤ x ∧ x < a) ∧ (0 ≤ y ∧ y < b) ∧ (0 ≤ z ∧ z < c) ∧ (0 ≤ u ∧ u < d) ∧ (0 ≤ v ∧ v < e) := by
  cases h with
  | cons h1 t =>
    obtain ⟨_, _, _, _, rfl, h2, h3, h4, h5⟩ := below4 t
    exact ⟨_, _, _, _, _, rfl, h1, h2, h3, h4, h5⟩
theorem below_rep {xs : List Int} {n : Nat} {c : Int} (h : Below xs (List.replicate n c)) : xs.length = n ∧ ∀ x ∈ xs, 0 ≤ x ∧ x < c := by
  have hl := h.length
  rw [List.length_replicate] at hl
  refine ⟨hl, fun x hx => ?_⟩
  obtain ⟨i, hi⟩ := List.mem_iff_getElem?.mp hx
  obtain ⟨s, hs, hb⟩ := paired_at h hi
  rw [List.eq_of_mem_replicate (List.mem_of_getElem? hs)] at hb
  exact hb
theorem other_good {m : Nat} {one by_ : Int} (m0 : 1 ≤ m) (m1 : m ≤ 10) (h0 : 0 ≤ one) (h1 : one < m + 1) (b0 : 0 ≤ by_) (b1 : by_ < m) :
    -1 ≤ (one + 1 + by_) % ((m : Int) + 1) - 1 ∧ (one + 1 + by_) % ((m : Int) + 1) - 1 < m ∧ one - 1 ≠ (one + 1 + by_) % ((m : Int) + 1) - 1 := by
  have hm : m = 1 ∨ m = 2 ∨ m = 3 ∨ m = 4 ∨ m = 5 ∨ m = 6 ∨ m = 7 ∨ m = 8 ∨ m = 9 ∨ m = 10 := by omega
  rcases hm with rfl | rfl | rfl | rfl | rfl | rfl | rfl | rfl | rfl | rfl <;> omega
section
variable {K : PySem.W.Frag} {σ : L2.St} {H : Hp} {ta tb te : TE}
/-- a list of numbers as an argument of a call of digits -/
theorem digits_call {t0 t1 t2 : TE} {a : Addr} {ns sizes : List Int} {k : Int} {Q : VK} (h0 : Ev t0 σ H (.ref a)) (h1 : Ev t1 σ H (.int k)) (h2 : EvL t2 σ H (sizes.map L2.V.int)) (hn : IsInts K H a ns) (hl : ns.length ≤ 63) (k0 : 0 ≤ k) (k1 : k ≤ 1000000) (hsl : sizes.length ≤ 100)
    (hsz : ∀ s ∈ sizes, 0 < s ∧ s < 1073741824) (q : ∀ (xs : List Int) p H', Ex H H' → H p = none → H' p = some (.lst (xs.map L2.V.int)) → Below xs sizes → Q (.ref p) H') : tCall (sp_law_digits K) [] C8.E0 (tCons t0 (tCons t1 (tCons t2 tNil))) σ H Q :=
  h0 H (Ex.refl H) _ fun H1 e1 => h1 H1 e1 _ fun H2 e2 => h2 H2 (e1.trans e2) _ fun b H3 fb e3 hb => ⟨a, b, ns, sizes, k, rfl, ex_l ((e1.trans e2).trans e3) hn, hl, k0, k1, sq_of hb, hsl, hsz, fun xs p H4 e4 fp hp hB =>
    q xs p H4 (((e1.trans e2).trans e3).trans e4) (fresh_back ((e1.trans e2).trans e3) fp) hp hB⟩
end
section
variable {P : Program} {w : World} {K : PySem.W.Frag} {mg : Str → Option Value} {base : Heap}
/-! ### _law_great -/
structure Drawn (m : Nat) (ts : List Tie) (d : List Int) : Prop where
  m0 : 1 ≤ m
  m1 : m ≤ 10
  tl : ts.length ≤ 11
  ok : ∀ t ∈ ts, OkTie m t
  way : Way m ts d
def sp_law_great (K : PySem.W.Frag) : Sp := fun vs H Q _ => ∃ (a : Addr) (ns : List Int) (k : Int), vs = [.ref a, .int k, .int 11] ∧ IsInts K H a ns ∧ ns.length ≤ 63 ∧ 0 ≤ k ∧ k ≤ 1000 ∧
  ∀ (m : Nat) (ts : List Tie) (d : List Int) (x : L2.V) (p ta da : Addr) H', Ex H H' → Drawn m ts d → (∃ us, H' ta = some (.lst us) ∧ TiesV K H' us ts) → H' da = some (.lst (d.map L2.V.int)) → H' p = some (.tup [.int (m : Int), .ref ta, .ref da, x]) → Q (.ref p) H'
theorem b_law_great (G : Gs mg) {k : Nat} (C1 : C8.Cal P w K mg base k "_law_digits" (sp_law_digits K) []) {j : Nat} (hk : k ≤ j) : Body P w K mg base j "_law_great" s_law_great n_law_great (sp_law_great K) := by
  rintro f cdv A outer s H vs Q E hr ⟨a, ns, k0, rfl, hn, hl, h0, h1, q⟩
  have nd' := sc_law_great.nd
  refine ⟨_, pss_cons (ps_asg (C8.pe_c C1 hr hk rfl (pa_cons (pv 0) (pa_cons (pv 1) (pa_cons (pe_lst (pa_cons pe_int (pa_cons (pe_op op_add (pv 2) pe_int) (pa_cons pe_int (pa_cons pe_int pa_nil))))) pa_nil))))
      (pg_unl rfl (pgs_cons (pg_name (i := 3) nd' rfl (.inl rfl)) (pgs_cons (pg_name (i := 4) nd' rfl (.inl rfl)) (pgs_cons (pg_name (i := 5) nd' rfl (.inl rfl)) (pgs_cons (pg_name (i := 6) nd' rfl (.inl rfl)) pgs_nil))))))
    (pss_cons (ps_set (i := 3) nd' rfl (.inl rfl) (pe_op op_add pe_int (pv 3)))
    (pss_cons (ps_set (i := 7) nd' rfl (.inl rfl) (C8.pe_c C1 hr hk rfl (pa_cons (pv 0) (pa_cons (pe_op op_add (pv 1) pe_int) (pa_cons (pe_op op_rep (pe_lst (pa_cons pe_int pa_nil)) (pv 3)) pa_nil)))))
    (Evl.pss_cut (ps_if (pt_cmpR op_eq (pv 5) pe_int (nomark _))
      (pss_one (ps_setLc (i := 7) (own := [("_law_day", 17)]) (g := gName 17) rfl nd' rfl rfl (sw_true rfl rfl rfl (by decide +kernel)) (pi_list (pv 7)) (blkOk_by (own := [("_law_day", 17)]) (N := n_law_great) (sc := defScope s_law_great) (by decide +kernel))
        (fun _ _ _ _ _ => pg_name (i := 17) nd' rfl (.inl rfl)) (fun _ _ _ _ _ => pts_nil) (fun _ _ _ _ _ => pe_op op_add pe_int (pe_op op_mod (pv 17) pe_int)))) pss_nil)
    (pss_cons (ps_set (i := 8) nd' rfl (.inl rfl) (pe_lst pa_nil))
    (pss_cons (ps_for PassesOwn.never rfl (pi_range1 rfl G.range (pa_cons (pv 4) pa_nil)) (pg_name (i := 9) nd' rfl (.inl rfl))
      (pss_cons (ps_asg (C8.pe_c C1 hr hk rfl (pa_cons (pv 0) (pa_cons (pe_op op_add (pe_op op_add (pv 1) pe_int) (pv 9)) (pa_cons (pe_lst (pa_cons (pe_op op_add (pv 3) pe_int) (pa_cons (pv 3) (pa_cons pe_int (pa_cons pe_int pa_nil))))) pa_nil))))
        (pg_unl rfl (pgs_cons (pg_name (i := 10) nd' rfl (.inl rfl)) (pgs_cons (pg_name (i := 11) nd' rfl (.inl rfl)) (pgs_cons (pg_name (i := 12) nd' rfl (.inl rfl)) (pgs_cons (pg_name (i := 13) nd' rfl (.inl rfl)) pgs_nil))))))
      (pss_cons (ps_set (i := 14) nd' rfl (.inl rfl) (pe_op op_sub (pe_op op_mod (pe_op op_add (pe_op op_add (pv 10) pe_int) (pv 11)) (pe_op op_add (pv 3) pe_int)) pe_int))
      (pss_cons (ps_set (i := 12) nd' rfl (.inl rfl) (pe_ix ix_list (pe_lst (pa_cons pe_int (pa_cons (pe_op op_mod (pv 12) pe_int) (pa_cons (pe_op op_mod (pv 12) pe_int) (pa_cons (pv 12) pa_nil))))) (pv 13) (fun _ _ => rfl)))
      (pss_cons (ps_set (i := 15) nd' rfl (.inl rfl) (pe_ifExp (pt_cmpR op_eq (pv 10) pe_int (nomark _)) pe_int (pe_ix ix_list (pv 7) (pe_op op_sub (pv 10) pe_int) (fun _ _ => rfl))))
      (pss_cons (ps_set (i := 16) nd' rfl (.inl rfl) (pe_ifExp (pt_cmpR op_lt (pv 14) pe_int (nomark _)) pe_int (pe_ix ix_list (pv 7) (pv 14) (fun _ _ => rfl))))
      (pss_one (ps_expr (pe_bm PySem.F.plainAttrs_list PySem.F.slot_list_append PySem.F.type_list_append mt_append (pv 8) (pa_cons (pe_tup (pa_cons (pe_op op_sub (pv 10) pe_int) (pa_cons (pv 14)
        (pa_cons (pe_callB (call_max2 rfl) rfl G.max PyProof.Rows.boot_max (pa_cons (pe_un un_neg pe_int) (pa_cons (pe_op op_sub (pe_op op_sub (pv 15) (pv 16)) (pv 12)) pa_nil))) pa_nil)))) pa_nil))))))))))
    (pss_one (ps_ret (pe_tup (pa_cons (pv 3) (pa_cons (pv 8) (pa_cons (pv 7) (pa_cons (pv 6) pa_nil)))))))))))), ?_⟩
  -- many, count, near, bad
  refine digits_call (K := K) (sizes := [10, 12, 3, 4]) (ev_var rfl) (ev_var rfl) (el_lst (ea_cons ev_c (ea_cons (ev_op (ev_var rfl) ev_c rv_I0) (ea_cons ev_c (ea_cons ev_c ea_nil)))) (by show 4 ≤ 100000; omega)) hn hl h0 (by omega) (by decide) (by decide) fun xs p H1 e1 fp hp hB => ?_
  obtain ⟨x, cnt, near, bad, rfl, ⟨x0, x1⟩, ⟨c0, c1⟩, _, _⟩ := below4 hB
  refine ⟨p, _, rfl, sq_of hp, rfl, _, _, rfl, _, _, rfl, _, _, rfl, _, _, rfl, rfl, ?_⟩
  obtain ⟨m, hm⟩ : ∃ m : Nat, 1 + x = (m : Int) := ⟨(1 + x).toNat, by omega⟩
  refine q_asg (v := .int (m : Int)) (ev_is (ev_op ev_c (ev_var rfl) rv_add) (by rw [hm])) fun H2 e2 => ?_
  have m0 : 1 ≤ m := by omega
  have m1 : m ≤ 10 := by omega
  -- days
  refine digits_call (K := K) (sizes := List.replicate m 10000) (ev_var rfl) (ev_op (ev_var rfl) ev_c rv_add) (by rw [List.map_replicate]; exact el_rep ev_c (ev_var rfl) (by omega)) (ex_l (e1.trans e2) hn) hl (by omega) (by omega) (by rw [List.length_replicate]; omega)
    (fun s hs => by rw [List.eq_of_mem_replicate hs]; decide) fun d0 da H3 e3 fda hda hB2 => ?_
  obtain ⟨dl0, db0⟩ := below_rep hB2
  have e13 := (e1.trans e2).trans e3
  refine q_cut (M := fun σ' H4 => ∃ (d : List Int) (da : Addr), σ' = [some (.ref a), some (.int k0), some (.int 11), some (.int (m : Int)), some (.int cnt), some (.int near), some (.int bad), some (.ref da), none, none, none, none, none, none, none, none, none, none] ∧ Ex H H4 ∧
    H4 da = some (.lst (d.map L2.V.int)) ∧ d.length = m ∧ ∀ x ∈ d, 0 ≤ x ∧ x ≤ 9999) (s_when (et_test (ev_op (ev_var rfl) ev_c (rv_eq rfl))) (fun hb H4 e4 => ?_) (fun hb H4 e4 => ?_)) ?_
  · have hcomp := el_lcL (K := K) (a := da) (σ := [some (.ref a), some (.int k0), some (.int 11), some (.int (m : Int)), some (.int cnt), some (.int near), some (.int bad), some (.ref da), none, none, none, none, none, none, none, none, none, none]) (H := H4) (j := 17) (vs := [17]) (xs := d0.map L2.V.int) (tl := tVar 7) (fun _ => true) (fun i => L2.V.int (4990 + (d0.getD i 0) % 20)) (t := tYes)
      (te := tOp (rI0 fun i j => .int (i + j)) (tC (.int 4990)) (tOp (rI (fun _ j => 0 < j) fun i j => .int (i % j)) (tVar 17) (tC (.int 20))))
      (ev_var rfl) (sq_of (e4 _ _ hda)) (by rw [List.length_map]; omega) (fun x => rfl) (fun i x H1 _ _ H2 _ Q' q' => q' H2 (Ex.refl H2)) (fun i x H5 e5 hx _ => by
        obtain ⟨y, hy, rfl⟩ := ints_get hx
        refine ev_is (ev_op ev_c (ev_op (ev_var rfl) ev_c (rv_I (show (0 : Int) < 20 by decide))) rv_add) ?_
        rw [List.getD_eq_getElem?_getD, hy]
        rfl)
    rw [given_all, range_map (l := d0) (g := fun y => L2.V.int (4990 + y % 20)) (by rw [List.length_map]) (fun i y hy => by rw [List.getD_eq_getElem?_getD, hy]; rfl)] at hcomp
    refine s_asgL hcomp fun db H5 fb e5 h5 => ⟨d0.map fun y => 4990 + y % 20, db, rfl, (e13.trans e4).trans e5, by rw [h5, List.map_map]; rfl, by rw [List.length_map]; exact dl0, fun x hx => ?_⟩
    obtain ⟨y, _, rfl⟩ := List.mem_map.mp hx
    have := Int.emod_nonneg y (show (20 : Int) ≠ 0 by decide)
    have := Int.emod_lt_of_pos y (show (0 : Int) < 20 by decide)
    omega
  · exact ⟨d0, da, rfl, e13.trans e4, e4 _ _ hda, dl0, fun x hx => by have := db0 x hx; omega⟩
  rintro σ' H4 ⟨d, da, rfl, e4, hda, hdl, hdb⟩
  have wl : ∀ n : Nat, 0 ≤ d.getD n 0 ∧ d.getD n 0 ≤ 9999 := fun n => by
    rw [List.getD_eq_getElem?_getD]
    cases hq : d[n]? with
    | none => exact ⟨by decide, by decide⟩
    | some y => exact hdb y (List.mem_of_getElem? hq)
  have dl9 : ∀ z : Int, 0 ≤ dayOf d z ∧ dayOf d z ≤ 9999 := fun z => by
    unfold dayOf
    by_cases hz : z < 0
    · rw [if_pos hz]; omega
    · rw [if_neg hz]; exact wl _
  refine q_asgL (el_lst ea_nil (Nat.zero_le _)) fun tia H5 fti e5 h5 => ?_
  have e45 := e4.trans e5
  have ftH : H tia = none := fresh_back e4 fti
  have dne : da ≠ tia := fun z => by rw [← z, hda] at fti; cases fti
  refine q_forR1 (n := cnt) (ea_cons (ev_var rfl) ea_nil) (by omega) (fun i σ' H' => ∃ (x9 x10 x11 x12 x13 x14 x15 x16 : Option L2.V) (vs : List L2.V) (ts : List Tie), σ' = [some (.ref a), some (.int k0), some (.int 11), some (.int (m : Int)), some (.int cnt), some (.int near), some (.int bad), some (.ref da), some (.ref tia), x9, x10, x11, x12, x13, x14, x15, x16, none] ∧
    Ex H H' ∧ H' da = some (.lst (d.map L2.V.int)) ∧ H' tia = some (.lst vs) ∧ TiesV K H' vs ts ∧ ts.length = i ∧ ∀ t ∈ ts, OkTie m t ∧ t.2.2 ≤ dayOf d t.1 - dayOf d t.2.1) ?_ ?_ ?_
  · intro H6 e6
    exact ⟨_, _, _, _, _, _, _, _, [], [], rfl, e45.trans e6, e6 _ _ (e5 _ _ hda), e6 _ _ h5, .nil, rfl, fun t ht => by cases ht⟩
  · rintro i σ' H' hi ⟨x9, x10, x11, x12, x13, x14, x15, x16, vs, ts, rfl, ee, hd', ht', hT, hlen, hok⟩
    refine digits_call (K := K) (sizes := [(m : Int) + 1, (m : Int), 10000, 4]) (ev_var rfl) (ev_op (ev_op (ev_var rfl) ev_c rv_add) (ev_var rfl) rv_add) (el_lst (ea_cons (ev_op (ev_var rfl) ev_c rv_I0) (ea_cons (ev_var rfl) (ea_cons ev_c (ea_cons ev_c ea_nil)))) (by show 4 ≤ 100000; omega)) (ex_l ee hn) hl (by omega) (by omega) (by show 4 ≤ 100; omega)
      (fun s hs => by
        simp only [List.mem_cons, List.not_mem_nil, or_false] at hs
        rcases hs with rfl | rfl | rfl | rfl <;> omega) fun xs p H6 e6 fp hp hB => ?_
    obtain ⟨one, by_, sl, kd, rfl, ⟨o0, o1⟩, ⟨b0, b1⟩, ⟨s0, s1⟩, ⟨k1, k2⟩⟩ := below4 hB
    refine ⟨p, _, rfl, sq_of hp, rfl, _, _, rfl, _, _, rfl, _, _, rfl, _, _, rfl, rfl, ?_⟩
    obtain ⟨g0, g1, g2⟩ := other_good m0 m1 o0 o1 b0 b1
    generalize hot : (one + 1 + by_) % ((m : Int) + 1) - 1 = oth at g0 g1 g2
    refine q_asg (v := .int oth) (ev_is (ev_op (ev_op (ev_op (ev_op (ev_var rfl) ev_c rv_add) (ev_var rfl) rv_add) (ev_op (ev_var rfl) ev_c rv_add) (rv_I (show (0 : Int) < (m : Int) + 1 by omega))) ev_c rv_sub) (by rw [hot])) fun H7 e7 => ?_
    have a5 := Int.emod_nonneg sl (show (5 : Int) ≠ 0 by decide)
    have a200 := Int.emod_nonneg sl (show (200 : Int) ≠ 0 by decide)
    obtain ⟨sl', hs', hsp⟩ : ∃ sl' : Int, atI ([0, sl % 5, sl % 200, sl].map L2.V.int) kd = some (.int sl') ∧ 0 ≤ sl' := by
      have hk : kd = 0 ∨ kd = 1 ∨ kd = 2 ∨ kd = 3 := by omega
      rcases hk with rfl | rfl | rfl | rfl
      · exact ⟨_, rfl, Int.le_refl 0⟩
      · exact ⟨_, rfl, a5⟩
      · exact ⟨_, rfl, a200⟩
      · exact ⟨_, rfl, s0⟩
    refine q_asg (v := .int sl') (ev_opL1 (xs := [0, sl % 5, sl % 200, sl].map L2.V.int) (y := .int kd) (el_lst (ea_cons ev_c (ea_cons (ev_op (ev_var rfl) ev_c (rv_I (show (0 : Int) < 5 by decide))) (ea_cons (ev_op (ev_var rfl) ev_c (rv_I (show (0 : Int) < 200 by decide))) (ea_cons (ev_var rfl) ea_nil)))) (by show 4 ≤ 100000; omega)) (fun _ _ => ev_var rfl) (fun p H8 hp _ => rv_ixL (sq_of hp) hs')) fun H8 e8 => ?_
    have e68 := (e6.trans e7).trans e8
    refine q_asg (v := .int (dayOf d (one - 1))) (ev_if (et_test (ev_op (ev_var rfl) ev_c (rv_eq rfl))) (fun h => ev_is ev_c ?_) (fun h => ev_is (ev_op (ev_var rfl) (ev_op (ev_var rfl) ev_c rv_sub) (rv_ixL (sq_of (e68 _ _ hd')) (ints_atI ?_ ?_))) ?_)) fun H9 e9 => ?_
    · have h1 : one = 0 := by
        have := of_decide_eq_true h
        exact L2.V.int.inj this
      unfold dayOf
      rw [if_pos (by omega)]
    · have h1 : one ≠ 0 := fun z => of_decide_eq_false h (by rw [z])
      omega
    · omega
    · have h1 : one ≠ 0 := fun z => of_decide_eq_false h (by rw [z])
      unfold dayOf
      rw [if_neg (by omega)]
    refine q_asg (v := .int (dayOf d oth)) (ev_day (sq_of ((e68.trans e9) _ _ hd')) g0 (by omega) (ev_var rfl) (ev_var rfl)) fun H10 e10 => ?_
    have e610 := (e68.trans e9).trans e10
    have vl : vs.length = i := by rw [hT.length, hlen]
    refine s_appU (l := tia) (xs := vs) (ys := [.int (one - 1), .int oth, .int (max (-9999) (dayOf d (one - 1) - dayOf d oth - sl'))]) (e610 _ _ ht') (ev_var rfl) (eu_tup (ea_cons (ev_op (ev_var rfl) ev_c rv_sub) (ea_cons (ev_var rfl) (ea_cons (ev_is (ev_max2 (ev_un ev_c ru_neg) (ev_op (ev_op (ev_var rfl) (ev_var rfl) rv_sub) (ev_var rfl) rv_sub)) (by rw [ifMax])) ea_nil))) (by show 3 ≤ 100000; omega)) (by omega) fun q H11 fq e11 hq => ?_
    have e611 := e610.trans e11
    have hqt : IsTie K H11 (.ref q) (one - 1, oth, max (-9999) (dayOf d (one - 1) - dayOf d oth - sl')) := IsTie.of hq
    refine ⟨_, _, _, _, _, _, _, _, vs ++ [.ref q], ts ++ [(one - 1, oth, max (-9999) (dayOf d (one - 1) - dayOf d oth - sl'))], rfl, Ex.mut (ee.trans e611) ftH, ?_, upd_same, ?_, ?_, ?_⟩
    · rw [upd_ne dne]
      exact e611 _ _ hd'
    · exact TiesV.lst (e611 _ _ ht') (paired_app (hT.kp (Kp.of e611)) (.cons hqt .nil))
    · rw [List.length_append, hlen]
      rfl
    · intro t ht
      rcases List.mem_append.mp ht with ht | ht
      · exact hok t ht
      · rcases List.mem_singleton.mp ht with rfl
        have q1 := dl9 (one - 1)
        have q2 := dl9 oth
        refine ⟨⟨⟨by show -1 ≤ one - 1; omega, by show one - 1 < _; omega, g0, g1, g2⟩, ?_, ?_⟩, ?_⟩
        · show -9999 ≤ max (-9999) (dayOf d (one - 1) - dayOf d oth - sl')
          omega
        · show max (-9999) (dayOf d (one - 1) - dayOf d oth - sl') ≤ 9999
          omega
        · show max (-9999) (dayOf d (one - 1) - dayOf d oth - sl') ≤ dayOf d (one - 1) - dayOf d oth
          omega
  · rintro σ' H' ⟨x9, x10, x11, x12, x13, x14, x15, x16, vs, ts, rfl, ee, hd', ht', hT, hlen, hok⟩
    refine s_retU (eu_tup (ea_cons (ev_var rfl) (ea_cons (ev_var rfl) (ea_cons (ev_var rfl) (ea_cons (ev_var rfl) ea_nil)))) (by show 4 ≤ 100000; omega)) fun r H6 fr e6 hr' => ?_
    exact q m ts d _ r tia da H6 (ee.trans e6) ⟨m0, m1, by omega, fun t ht => (hok t ht).1, ⟨hdl, fun x hx => (hdb x hx).1, fun x hx => (hdb x hx).2, fun t ht => (hok t ht).2⟩⟩ ⟨vs, e6 _ _ ht', hT.kp (Kp.of e6)⟩ (e6 _ _ hd') hr'
end
end Lh
namespace Lh
open PySem PySem.Spec PyProof.Rows L2 Evl
theorem map_erase {α β : Type} (g : α → β) : ∀ (l : List α) (k : Nat), (l.map g).eraseIdx k = (l.eraseIdx k).map g
  | [], _ => rfl
  | _ :: _, 0 => rfl
  | a :: l, k + 1 => congrArg (g a :: ·) (map_erase g l k)
theorem natV_erase (l : List Nat) (k : Nat) : (natV l).eraseIdx k = natV (l.eraseIdx k) := by
  unfold natV
  rw [map_erase, map_erase]
theorem perm_erase {y : Nat} : ∀ {l : List Nat} {k : Nat}, l[k]? = some y → (y :: l.eraseIdx k).Perm l
  | [], k, h => by simp at h
  | a :: l, 0, h => by
    have e := Option.some.inj h
    subst e
    exact List.Perm.refl _
  | a :: l, k + 1, h => (List.Perm.swap a y (l.eraseIdx k)).trans ((perm_erase (l := l) (k := k) h).cons a)
theorem rg_nat (m : Nat) : rgV 0 (m : Int) = natV (List.range m) := by
  unfold rgV natV
  rw [List.map_map]
  have e : ((m : Int) - 0).toNat = m := by omega
  rw [e]
  refine List.map_congr_left fun i _ => ?_
  show L2.V.int (0 + (i : Int)) = L2.V.int (i : Int)
  rw [Int.zero_add]
section
variable {K : PySem.W.Frag} {σ : L2.St} {H : Hp} {ta te : TE}
theorem pop_ev {l : Addr} {xs : List L2.V} {i : Int} {k : Nat} {y : L2.V} {Q : VK} (hl : H l = some (.lst xs)) (ha : Ev ta σ H (.ref l)) (h : Ev te σ H (.int i)) (b0 : 0 ≤ i) (b1 : i < 2 ^ 63) (hk : seqIndex? i xs.length = some k) (hy : xs[k]? = some y)
    (q : ∀ H1, Ex H H1 → Q y (upd H1 l (.lst (xs.eraseIdx k)))) : tBM K "list" rPopAt ta (tCons te tNil) σ H Q := ha H (Ex.refl H) _ fun H1 e1 =>
  ⟨Or.inl ⟨rfl, xs, sq_of (e1 l _ hl)⟩, h H1 e1 _ fun H2 e2 => ⟨l, xs, i, k, y, rfl, rfl, e2 l _ (e1 l _ hl), by omega, b1, hk, hy, q H2 (e1.trans e2)⟩⟩
end
section
variable {P : Program} {w : World} {K : PySem.W.Frag} {mg : Str → Option Value} {base : Heap}
/-! ### _law_row -/
def sp_law_row (K : PySem.W.Frag) : Sp := fun vs H Q _ => ∃ (a : Addr) (ns : List Int) (k : Int) (m : Nat), vs = [.ref a, .int k, .int (m : Int)] ∧ IsInts K H a ns ∧ ns.length ≤ 63 ∧ 0 ≤ k ∧ k ≤ 1000 ∧ 1 ≤ m ∧ m ≤ 10 ∧
  ∀ (row : List Nat) p H', Ex H H' → OkRow m row → H' p = some (.lst (natV row)) → Q (.ref p) H'
theorem b_law_row (G : Gs mg) {k : Nat} (C1 : C8.Cal P w K mg base k "_law_digits" (sp_law_digits K) []) {j : Nat} (hk : k ≤ j) : Body P w K mg base j "_law_row" s_law_row n_law_row (sp_law_row K) := by
  rintro f cdv A outer s H vs Q E hr ⟨a, ns, k0, m, rfl, hn, hl, h0, h1, m0, m1, q⟩
  have nd' := sc_law_row.nd
  refine ⟨_, pss_cons (ps_set (i := 3) nd' rfl (.inl rfl) (C8.pe_c C1 hr hk rfl (pa_cons (pv 0) (pa_cons (pv 1) (pa_cons (pe_lst (pa_cons pe_int (pa_cons pe_int (pa_cons pe_int (pa_cons pe_int (pa_cons pe_int pa_nil)))))) pa_nil)))))
    (pss_cons (ps_set (i := 4) nd' rfl (.inl rfl) (pe_listRg rfl rfl G.list (prg_1 rfl G.range (pv 2))))
    (pss_cons (ps_set (i := 5) nd' rfl (.inl rfl) (pe_lst pa_nil))
    (pss_cons (ps_for PassesOwn.never rfl (pi_list (pe_slice sl_list (pv 3) (po_some pe_int) (po_some (pe_op op_add pe_int (pe_ix ix_list (pv 3) pe_int (fun _ _ => rfl)))))) (pg_name (i := 6) nd' rfl (.inl rfl))
      (pss_one (ps_if (pt_cmpR op_gt (pe_callB call_len_seq rfl G.len PySem.boot_len (pa_cons (pv 4) pa_nil)) pe_int (nomark _))
        (pss_one (ps_expr (pe_bm PySem.F.plainAttrs_list PySem.F.slot_list_append PySem.F.type_list_append mt_append (pv 5)
          (pa_cons (pe_bm PySem.F.plainAttrs_list PySem.F.slot_list_pop PySem.F.type_list_pop mt_popAt (pv 4) (pa_cons (pe_op op_mod (pv 6) (pe_callB call_len_seq rfl G.len PySem.boot_len (pa_cons (pv 4) pa_nil))) pa_nil)) pa_nil)))) pss_nil)))
    (pss_one (ps_ret (pv 5)))))), ?_⟩
  refine digits_call (K := K) (sizes := [4, 10, 9, 8, 7]) (ev_var rfl) (ev_var rfl) (el_lst (ea_cons ev_c (ea_cons ev_c (ea_cons ev_c (ea_cons ev_c (ea_cons ev_c ea_nil))))) (by show 5 ≤ 100000; omega)) hn hl h0 (by omega) (by decide) (by decide) fun xs pl H1 e1 fp hp hB => ?_
  obtain ⟨p0, p1, p2, p3, p4, rfl, ⟨a0, a1⟩, ⟨b0, _⟩, ⟨c0, _⟩, ⟨d0, _⟩, ⟨g0, _⟩⟩ := below5 hB
  refine ⟨_, rfl, (m : Int), rfl, RgOk.of_le (Int.le_refl 0) (by omega) (by decide) (by omega), fun le fle => ?_⟩
  have ele : Ex H1 (upd H1 le (.lst (rgV 0 (m : Int)))) := Ex.new fle
  have hle : upd H1 le (.lst (rgV 0 (m : Int))) le = some (.lst (natV (List.range m))) := by rw [upd_same, rg_nat]
  generalize upd H1 le (.lst (rgV 0 (m : Int))) = H2 at ele hle
  refine q_asgL (el_lst ea_nil (Nat.zero_le _)) fun fo H3 ffo e3 h3 => ?_
  have fleH : H le = none := fresh_back e1 fle
  have ffoH : H fo = none := fresh_back (e1.trans ele) ffo
  have nfl : le ≠ fo := fun z => by rw [← z, hle] at ffo; cases ffo
  obtain ⟨ps, hps, l1, l4, pos⟩ : ∃ ps : List Int, cutV ([p0, p1, p2, p3, p4].map L2.V.int) (some 1) (some (2 + p0)) = ps.map L2.V.int ∧ 1 ≤ ps.length ∧ ps.length ≤ 4 ∧ ∀ x ∈ ps, 0 ≤ x := by
    have hk : p0 = 0 ∨ p0 = 1 ∨ p0 = 2 ∨ p0 = 3 := by omega
    rcases hk with rfl | rfl | rfl | rfl
    · exact ⟨[p1], rfl, by simp, by simp, fun x hx => by simp at hx; omega⟩
    · exact ⟨[p1, p2], rfl, by simp, by simp, fun x hx => by simp at hx; omega⟩
    · exact ⟨[p1, p2, p3], rfl, by simp, by simp, fun x hx => by simp at hx; omega⟩
    · exact ⟨[p1, p2, p3, p4], rfl, by simp, by simp, fun x hx => by simp at hx; omega⟩
  have hsl := el_sl (K := K) (σ := [some (.ref a), some (.int k0), some (.int (m : Int)), some (.ref pl), some (.ref le), some (.ref fo), none]) (H := H3) (te := tVar 3) (tl := tPart (tC (.int 1))) (th := tPart (tOp (rI0 fun i j => .int (i + j)) (tC (.int 2)) (tOp (rIxL K) (tVar 3) (tC (.int 0))))) (a := pl) (lo := some 1) (hi := some (2 + p0))
    (ev_var rfl) (eo_some ev_c) (eo_some (ev_op ev_c (ev_op (ev_var rfl) ev_c (rv_ixL (sq_of ((ele.trans e3) _ _ hp)) rfl)) rv_add)) (sq_of ((ele.trans e3) _ _ hp))
  rw [hps] at hsl
  refine q_forNLn (K := K) hsl (fun it i σ' H' => ∃ (x6 : Option L2.V) (L F : List Nat), σ' = [some (.ref a), some (.int k0), some (.int (m : Int)), some (.ref pl), some (.ref le), some (.ref fo), x6] ∧ Ex H H' ∧ H' it = some (.lst (ps.map L2.V.int)) ∧ le ≠ it ∧ fo ≠ it ∧ H' le = some (.lst (natV L)) ∧ H' fo = some (.lst (natV F)) ∧
    (L ++ F).Perm (List.range m) ∧ F.length ≤ i ∧ (F.length = i ∨ L = [])) ?_ ?_ ?_ ?_
  · intro it H4 fit e4 h4
    refine ⟨_, List.range m, [], rfl, ((e1.trans ele).trans e3).trans e4, h4, fun z => ?_, fun z => ?_, e4 _ _ (e3 _ _ hle), e4 _ _ h3, by rw [List.append_nil], Nat.le_refl _, .inl rfl⟩
    · rw [← z, e3 _ _ hle] at fit
      cases fit
    · rw [← z, h3] at fit
      cases fit
  · rintro it i σ' H' _ ⟨_, _, _, _, _, hi, _⟩
    exact sq_of hi
  · rintro it i x σ' H' hx ⟨x6, L, F, rfl, ee, hit, ni1, ni2, hL, hF, hP, hi1, hi2⟩
    obtain ⟨pc, hpc, rfl⟩ := ints_get hx
    have pc0 := pos pc (List.mem_of_getElem? hpc)
    have li : i < ps.length := (List.getElem?_eq_some_iff.mp hpc).1
    refine s_when (et_test (ev_op (ev_cb (ea_cons (ev_var rfl) ea_nil) (rc_len (sq_of hL) rfl)) ev_c rv_I0)) (fun hb H4 e4 => ?_) (fun hb H4 e4 => ?_)
    · have hpos : 0 < L.length := by
        have := of_decide_eq_true hb
        rw [natV_len] at this
        omega
      have r0 := Int.emod_nonneg pc (show (L.length : Int) ≠ 0 by omega)
      have r1 := Int.emod_lt_of_pos pc (show (0 : Int) < (L.length : Int) by omega)
      have plen := hP.length_eq
      rw [List.length_append, List.length_range] at plen
      obtain ⟨jx, hjx⟩ : ∃ jx : Nat, pc % (L.length : Int) = (jx : Int) := ⟨(pc % (L.length : Int)).toNat, by omega⟩
      have jl : jx < L.length := by omega
      have hy : L[jx]? = some L[jx] := List.getElem?_eq_getElem jl
      refine ⟨_, rfl, .inl ⟨rfl, _, sq_of (e4 _ _ hF)⟩, ?_⟩
      refine pop_ev (K := K) (l := le) (xs := natV L) (i := pc % (L.length : Int)) (k := jx) (y := .int (L[jx] : Int)) (e4 _ _ hL) (ev_var rfl) (ev_op (ev_var rfl) (ev_cb (ea_cons (ev_var rfl) ea_nil) (rc_len (sq_of (e4 _ _ hL)) (by rw [natV_len]))) (rv_I (show (0 : Int) < (L.length : Int) by omega))) r0 (by omega)
        (by rw [natV_len, hjx]; exact (ixN_seq (ixN_nat jl)).1) (natV_at hy) fun H5 e5 => ?_
      have e45 := e4.trans e5
      refine ⟨fo, natV F, _, rfl, rfl, by rw [upd_ne (Ne.symm nfl)]; exact e45 _ _ hF, sz_lt (by rw [natV_len]; omega), ?_⟩
      refine ⟨_, L.eraseIdx jx, F ++ [L[jx]], rfl, Ex.mut (Ex.mut (ee.trans e45) fleH) ffoH, ?_, ni1, ni2, ?_, ?_, ?_, ?_, .inl ?_⟩
      · rw [upd_ne (Ne.symm ni2), upd_ne (Ne.symm ni1)]
        exact e45 _ _ hit
      · rw [upd_ne nfl, upd_same, natV_erase]
      · rw [upd_same, natV_app]
        rfl
      · have h2 : (L.eraseIdx jx ++ (F ++ [L[jx]])).Perm (L ++ F) := by
          rw [← List.append_assoc]
          refine (List.perm_append_comm).trans ?_
          exact (perm_erase hy).append_right F
        exact h2.trans hP
      · rw [List.length_append]
        show F.length + 1 ≤ i + 1
        omega
      · rcases hi2 with h | h
        · rw [List.length_append, h]
          rfl
        · rw [h] at hpos
          cases hpos
    · have hz : L = [] := by
        have := of_decide_eq_false hb
        rw [natV_len] at this
        exact List.length_eq_zero_iff.mp (by omega)
      exact ⟨_, L, F, rfl, ee.trans e4, e4 _ _ hit, ni1, ni2, e4 _ _ hL, e4 _ _ hF, hP, by omega, .inr hz⟩
  · rintro it σ' H' ⟨x6, L, F, rfl, ee, hit, ni1, ni2, hL, hF, hP, hi1, hi2⟩
    rw [List.length_map] at hi1 hi2
    have plen := hP.length_eq
    rw [List.length_append, List.length_range] at plen
    refine s_ret (ev_var rfl) fun H4 e4 => q F fo H4 (ee.trans e4) ⟨?_, by omega, ?_, ?_⟩ (e4 _ _ hF)
    · rcases hi2 with h | h
      · omega
      · rw [h] at plen
        have : ([] : List Nat).length = 0 := rfl
        omega
    · exact (List.nodup_append.mp ((hP.nodup_iff).mpr List.nodup_range)).2.1
    · intro x hx
      exact List.mem_range.mp (hP.mem_iff.mp (List.mem_append_right L hx))
end
end Lh
namespace Lh
open PySem PySem.Spec PyProof.Rows L2 Evl
/-! ### a list of numbers against the empty one -/
theorem ints_lay : ∀ d : List Int, PyData.canLayAll0 (d.map PyData.int) = true
  | [] => by simp [PyData.canLayAll0]
  | z :: zs => by simp [PyData.canLayAll0, PyData.canLay0, ints_lay zs]
theorem ints_depth : ∀ d : List Int, PyData.depthAll (d.map PyData.int) ≤ 2
  | [] => by simp [PyData.depthAll]
  | z :: zs => by
    have h1 := ints_depth zs
    simp only [List.map_cons, PyData.depthAll, PyData.depth]
    omega
theorem ints_shaped (d : List Int) : SeqAt.shaped (.list (d.map PyData.int)) = true := by
  have h1 := ints_depth d
  have h2 : PyData.depth (.list (d.map PyData.int)) ≤ 64 := by
    simp only [PyData.depth]
    omega
  show (PyData.canLay0 (.list (d.map PyData.int)) && decide (PyData.depth (.list (d.map PyData.int)) ≤ 64)) = true
  rw [Bool.and_eq_true]
  exact ⟨by simp only [PyData.canLay0]; exact ints_lay d, decide_eq_true h2⟩
theorem ints_dp {K : PySem.W.Frag} {H : Hp} : ∀ d : List Int, DpAll K H (d.map L2.V.int) (d.map PyData.int)
  | [] => .nil
  | z :: zs => .cons (.int z) (ints_dp zs)
theorem ints_nil {d : List Int} (h : 1 ≤ d.length) : PyData.eqv (.list (d.map PyData.int)) (.list []) = false := by
  cases d with
  | nil => cases h
  | cons a t => simp [PyData.eqv, PyData.eqvAll]
theorem rv_eqNil {K : PySem.W.Frag} {H : Hp} {a p : Addr} {d : List Int} (hd : SqL K H a (d.map L2.V.int)) (hp : SqL K H p []) (h : 1 ≤ d.length) : RV (rEqD K) (.ref a) (.ref p) H (.bl false) := fun H1 e Q q =>
  ⟨_, _, .lst (ex_l e hd) (ints_dp d), .lst (ds := []) (ex_l e hp) .nil, ints_shaped d, ints_shaped [], by rw [ints_nil h]; exact q H1 (Ex.refl H1)⟩
section
variable {P : Program} {w : World} {K : PySem.W.Frag} {mg : Str → Option Value} {base : Heap}
/-! ### _law_run -/
def sp_law_run (K : PySem.W.Frag) : Sp := fun vs H Q _ => ∃ (a : Addr) (ns : List Int) (k : Int) (da : Addr) (d : List Int), vs = [.ref a, .int k, .ref da] ∧ IsInts K H a ns ∧ ns.length ≤ 63 ∧ 0 ≤ k ∧ k ≤ 1000 ∧ IsInts K H da d ∧ 1 ≤ d.length ∧ d.length ≤ 10 ∧
  ∀ (b : Int) (e : Option Int) p H', Ex H H' → Run b e → H' p = some (.tup [.int b, optV e]) → Q (.ref p) H'
theorem b_law_run (G : Gs mg) {k : Nat} (C1 : C8.Cal P w K mg base k "_law_digits" (sp_law_digits K) []) {j : Nat} (hk : k ≤ j) : Body P w K mg base j "_law_run" s_law_run n_law_run (sp_law_run K) := by
  rintro f cdv A outer s H vs Q E hr ⟨a, ns, k0, da, d, rfl, hn, hl, h0, h1, hd, dl0, dl1, q⟩
  have nd' := sc_law_run.nd
  refine ⟨_, pss_cons (ps_asg (C8.pe_c C1 hr hk rfl (pa_cons (pv 0) (pa_cons (pv 1) (pa_cons (pe_lst (pa_cons pe_int (pa_cons (pe_callB (call_max2 rfl) rfl G.max PyProof.Rows.boot_max (pa_cons pe_int (pa_cons (pe_callB call_len_seq rfl G.len PySem.boot_len (pa_cons (pv 2) pa_nil)) pa_nil))) (pa_cons pe_int (pa_cons pe_int (pa_cons pe_int pa_nil)))))) pa_nil))))
      (pg_unl rfl (pgs_cons (pg_name (i := 3) nd' rfl (.inl rfl)) (pgs_cons (pg_name (i := 4) nd' rfl (.inl rfl)) (pgs_cons (pg_name (i := 5) nd' rfl (.inl rfl)) (pgs_cons (pg_name (i := 6) nd' rfl (.inl rfl)) (pgs_cons (pg_name (i := 7) nd' rfl (.inl rfl)) pgs_nil)))))))
    (pss_cons (ps_set (i := 8) nd' rfl (.inl rfl) (pe_ifExp (PW.pt (pw_or (pt_cmpR op_eq (pv 3) pe_int (nomark _)) (pw_or1 (pt_cmpR (op_eqD hr.units) (pv 2) (pe_lst pa_nil) (nomark _))))) (pv 5)
      (pe_callB (call_max2 rfl) rfl G.max PyProof.Rows.boot_max (pa_cons pe_int (pa_cons (pe_callB (call_min2 rfl) rfl G.min PyProof.Rows.boot_min (pa_cons pe_int (pa_cons (pe_op op_sub (pe_op op_add (pe_ix ix_list (pv 2) (pv 4) (fun _ _ => rfl)) (pv 5)) pe_int) pa_nil))) pa_nil)))))
    (pss_cons (ps_set (i := 9) nd' rfl (.inl rfl) (pe_ix ix_list (pe_lst (pa_cons pe_non (pa_cons (pe_op op_add (pe_op op_add (pv 8) pe_int) (pe_op op_mod (pv 6) pe_int)) (pa_cons (pe_op op_add (pe_op op_add (pv 8) pe_int) (pe_op op_mod (pv 6) pe_int)) (pa_cons (pe_op op_add (pe_op op_add (pv 8) pe_int) (pv 6)) (pa_cons pe_int pa_nil)))))) (pv 7) (fun _ _ => rfl)))
    (pss_one (ps_ret (pe_tup (pa_cons (pv 8) (pa_cons (pe_ifExp (pt_cmpR op_isN (pv 9) pe_non (nomark _)) pe_non (pe_callB (call_min2 rfl) rfl G.min PyProof.Rows.boot_min (pa_cons pe_int (pa_cons (pv 9) pa_nil)))) pa_nil))))))), ?_⟩
  refine digits_call (K := K) (sizes := [2, (d.length : Int), 13, 10000, 5]) (ev_var rfl) (ev_var rfl) (el_lst (ea_cons ev_c (ea_cons (ev_is (ev_max2 ev_c (ev_cb (ea_cons (ev_var rfl) ea_nil) (rc_len hd rfl))) ?_) (ea_cons ev_c (ea_cons ev_c (ea_cons ev_c ea_nil))))) (by show 5 ≤ 100000; omega)) hn hl h0 (by omega) (by show 5 ≤ 100; omega)
    (fun s hs => by
      simp only [List.mem_cons, List.not_mem_nil, or_false] at hs
      rcases hs with rfl | rfl | rfl | rfl | rfl <;> omega) fun xs p H1 e1 fp hp hB => ?_
  · rw [ifMax, List.length_map]
    show L2.V.int (max 1 (d.length : Int)) = L2.V.int (d.length : Int)
    rw [show max 1 (d.length : Int) = (d.length : Int) by omega]
  obtain ⟨near, at_, sh, wd, way, rfl, ⟨n0, n1⟩, ⟨a0, a1⟩, ⟨s0, s1⟩, ⟨w0, w1⟩, ⟨y0, y1⟩⟩ := below5 hB
  refine ⟨p, _, rfl, sq_of hp, rfl, _, _, rfl, _, _, rfl, _, _, rfl, _, _, rfl, _, _, rfl, rfl, ?_⟩
  have hd1 := ex_l e1 hd
  obtain ⟨b, hb, b0, b1⟩ : ∃ b : Int, b = (if near = 0 then sh else max 0 (min 9999 (d.getD at_.toNat 0 + sh - 6))) ∧ 0 ≤ b ∧ b ≤ 9999 := by
    refine ⟨_, rfl, ?_, ?_⟩ <;> (by_cases hz : near = 0 <;> simp only [hz, if_true, if_false] <;> omega)
  refine q_asg (v := .int b) (ev_if (b := decide (L2.V.int near = L2.V.int 0) || false) (et_or (et_test (ev_op (ev_var rfl) ev_c (rv_eq rfl))) (fun _ => et_test (ev_opL (xs := []) (ev_var rfl) (el_lst ea_nil (Nat.zero_le _)) (fun p H2 hp e2 => rv_eqNil (ex_l e2 hd1) (sq_of hp) dl0))))
    (fun hc => ev_is (ev_var rfl) ?_) (fun hc => ev_is (ev_max2 ev_c (ev_cb (ea_cons ev_c (ea_cons (ev_op (ev_op (ev_op (ev_var rfl) (ev_var rfl) (rv_ixL hd1 (ints_atI a0 a1))) (ev_var rfl) rv_add) ev_c rv_sub) ea_nil)) (fun H2 e2 Q' q' => ⟨_, _, rfl, q' H2 (Ex.refl H2)⟩))) ?_)) fun H2 e2 => ?_
  · rw [Bool.or_false] at hc
    have := L2.V.int.inj (of_decide_eq_true hc)
    rw [hb, if_pos this]
  · rw [Bool.or_false] at hc
    have hz : near ≠ 0 := fun z => of_decide_eq_false hc (by rw [z])
    rw [hb, if_neg hz, ifMax, ifMin]
  have a12 := Int.emod_nonneg wd (show (12 : Int) ≠ 0 by decide)
  obtain ⟨y, hy, yok⟩ : ∃ y : Option Int, atI [L2.V.non, .int (b + 1 + wd % 12), .int (b + 1 + wd % 12), .int (b + 1 + wd), .int 10000] way = some (optV y) ∧ ∀ i, y = some i → b < i := by
    have hk : way = 0 ∨ way = 1 ∨ way = 2 ∨ way = 3 ∨ way = 4 := by omega
    rcases hk with rfl | rfl | rfl | rfl | rfl
    · exact ⟨none, rfl, fun i h => by cases h⟩
    · exact ⟨some (b + 1 + wd % 12), rfl, fun i h => by cases h; omega⟩
    · exact ⟨some (b + 1 + wd % 12), rfl, fun i h => by cases h; omega⟩
    · exact ⟨some (b + 1 + wd), rfl, fun i h => by cases h; omega⟩
    · exact ⟨some 10000, rfl, fun i h => by cases h; omega⟩
  refine q_asg (v := optV y) (ev_opL1 (xs := [L2.V.non, .int (b + 1 + wd % 12), .int (b + 1 + wd % 12), .int (b + 1 + wd), .int 10000]) (y := .int way) (el_lst (ea_cons ev_c (ea_cons (ev_op (ev_op (ev_var rfl) ev_c rv_add) (ev_op (ev_var rfl) ev_c (rv_I (show (0 : Int) < 12 by decide))) rv_add)
    (ea_cons (ev_op (ev_op (ev_var rfl) ev_c rv_add) (ev_op (ev_var rfl) ev_c (rv_I (show (0 : Int) < 12 by decide))) rv_add) (ea_cons (ev_op (ev_op (ev_var rfl) ev_c rv_add) (ev_var rfl) rv_add) (ea_cons ev_c ea_nil))))) (by show 5 ≤ 100000; omega)) (fun _ _ => ev_var rfl) (fun p H8 hp _ => rv_ixL (sq_of hp) hy)) fun H3 e3 => ?_
  refine s_retU (xs := [.int b, optV (y.map (min 10000))]) (eu_tup (ea_cons (ev_var rfl) (ea_cons ?_ ea_nil)) (by show 2 ≤ 100000; omega)) fun r H4 fr e4 hr' => q b _ r H4 (((e1.trans e2).trans e3).trans e4) ?_ hr'
  · cases y with
    | none => exact ev_if (b := true) (et_test (ev_op (ev_var rfl) ev_c (fun H2 _ _ q' => ⟨rfl, q' H2 (Ex.refl H2)⟩))) (fun _ => ev_c) (fun h => by cases h)
    | some i => exact ev_if (b := false) (et_test (ev_op (ev_var rfl) ev_c (fun H2 _ _ q' => ⟨rfl, q' H2 (Ex.refl H2)⟩))) (fun h => by cases h) (fun _ => ev_is (ev_cb (ea_cons ev_c (ea_cons (ev_var rfl) ea_nil)) (fun H2 e2 Q' q' => ⟨_, _, rfl, q' H2 (Ex.refl H2)⟩)) (by rw [ifMin]; rfl))
  · cases y with
    | none => exact ⟨b0, b1, by show b < 10000; omega, Int.le_refl _⟩
    | some i =>
      have := yok i rfl
      exact ⟨b0, b1, by show b < min 10000 i; omega, by show min 10000 i ≤ 10000; omega⟩
/-! ### _law_same, two numbers -/
def sp_law_same : Sp := fun vs H Q _ => ∃ a b : Int, vs = [.int a, .int b] ∧ Q (.bl (decide (a = b))) H
theorem b_law_same (G : Gs mg) (k : Nat) : Body P w K mg base k "_law_same" s_law_same n_law_same sp_law_same := by
  rintro f cdv A outer s H vs Q E hr ⟨a, b, rfl, q⟩
  refine ⟨_, pss_cons (ps_if (pt_cmpR op_isN (pv 1) pe_non (nomark _)) pss_never pss_nil)
    (pss_cons (ps_if (PW.pt (pw_or (pt_val (pe_callB call_isi rfl G.isin PyProof.Rows.boot_isinstance (pa_cons (pv 1) (pa_cons (pe_bltn (v := .ty "list") rfl G.list PyProof.Rows.boot_list rfl) pa_nil))))
      (pw_or1 (pt_val (pe_callB call_isi rfl G.isin PyProof.Rows.boot_isinstance (pa_cons (pv 1) (pa_cons (pe_bltn (v := .ty "tuple") rfl G.tuple PyProof.Rows.boot_tuple rfl) pa_nil))))))) pss_never pss_nil)
    (pss_cons (ps_if (PW.pt (pw_or (pt_cmpR op_ne (pe_callB call_isi rfl G.isin PyProof.Rows.boot_isinstance (pa_cons (pv 0) (pa_cons (pe_bltn (v := .ty "bool") rfl G.bool PyProof.Rows.boot_bool rfl) pa_nil))) (pe_callB call_isi rfl G.isin PyProof.Rows.boot_isinstance (pa_cons (pv 1) (pa_cons (pe_bltn (v := .ty "bool") rfl G.bool PyProof.Rows.boot_bool rfl) pa_nil))) (nomark _))
      (pw_or1 (pt_cmpR op_ne (pe_callB call_isi rfl G.isin PyProof.Rows.boot_isinstance (pa_cons (pv 0) (pa_cons (pe_bltn (v := .ty "int") rfl G.int PyProof.Rows.boot_int rfl) pa_nil))) (pe_callB call_isi rfl G.isin PyProof.Rows.boot_isinstance (pa_cons (pv 1) (pa_cons (pe_bltn (v := .ty "int") rfl G.int PyProof.Rows.boot_int rfl) pa_nil))) (nomark _))))) pss_never pss_nil)
    (pss_one (ps_ret (pe_and (pe_cmpR op_eq (pe_callB call_isi rfl G.isin PyProof.Rows.boot_isinstance (pa_cons (pv 0) (pa_cons (pe_bltn (v := .ty "str") rfl G.str PyProof.Rows.boot_str rfl) pa_nil))) (pe_callB call_isi rfl G.isin PyProof.Rows.boot_isinstance (pa_cons (pv 1) (pa_cons (pe_bltn (v := .ty "str") rfl G.str PyProof.Rows.boot_str rfl) pa_nil))) (nomark _))
      (pe_one (pe_cmpR op_eq (pv 0) (pv 1) (nomark _)))))))), ?_⟩
  refine ⟨_, rfl, rfl, _, rfl, ifF rfl ?_⟩
  refine ⟨_, rfl, _, _, _, _, _, rfl, .ty _, .base (.int _), kit_ty (r := false) (by decide +kernel), _, rfl, ifF rfl ⟨_, rfl, _, _, _, _, _, rfl, .ty _, .base (.int _), kit_ty (r := false) (by decide +kernel), _, rfl, ifF rfl ?_⟩⟩
  refine ⟨_, rfl, _, _, _, _, _, rfl, .ty _, .base (.int _), kit_ty (r := false) (by decide +kernel), _, rfl, _, _, _, _, _, rfl, .ty _, .base (.int _), kit_ty (r := false) (by decide +kernel), rfl, _, rfl, ifF rfl ⟨_, rfl, _, _, _, _, _, rfl, .ty _, .base (.int _), kit_ty (r := true) (by decide +kernel), _, rfl, _, _, _, _, _, rfl, .ty _, .base (.int _), kit_ty (r := true) (by decide +kernel), rfl, _, rfl, ifF rfl ?_⟩⟩
  refine ⟨_, rfl, _, _, _, _, _, rfl, .ty _, .base (.int _), kit_ty (r := false) (by decide +kernel), _, rfl, _, _, _, _, _, rfl, .ty _, .base (.int _), kit_ty (r := false) (by decide +kernel), rfl, _, rfl, ifT rfl ⟨_, rfl, _, rfl, rfl, ?_⟩⟩
  refine q_bl ?_ q
  by_cases h : a = b
  · rw [decide_eq_true h, decide_eq_true (by rw [h])]
  · rw [decide_eq_false h, decide_eq_false (fun z => h (L2.V.int.inj z))]
/-! ### _law_num, of a number -/
def sp_law_num : Sp := fun vs H Q _ => ∃ a : Int, vs = [.int a] ∧ Q (.bl true) H
theorem b_law_num (G : Gs mg) (k : Nat) : Body P w K mg base k "_law_num" s_law_num n_law_num sp_law_num := by
  rintro f cdv A outer s H vs Q E hr ⟨a, rfl, q⟩
  refine ⟨_, pss_one (ps_ret (pe_and (pe_callB call_isi rfl G.isin PyProof.Rows.boot_isinstance (pa_cons (pv 0) (pa_cons (pe_bltn (v := .ty "int") rfl G.int PyProof.Rows.boot_int rfl) pa_nil)))
    (pe_one (pe_not (pe_callB call_isi rfl G.isin PyProof.Rows.boot_isinstance (pa_cons (pv 0) (pa_cons (pe_bltn (v := .ty "bool") rfl G.bool PyProof.Rows.boot_bool rfl) pa_nil))))))), ?_⟩
  exact ⟨_, rfl, _, _, _, _, _, rfl, .ty _, .base (.int _), kit_ty (r := true) (by decide +kernel), _, rfl, ifT rfl ⟨_, rfl, _, _, _, _, _, rfl, .ty _, .base (.int _), kit_ty (r := false) (by decide +kernel), _, rfl, q⟩⟩
end
end Lh
namespace Lh
open PySem PySem.Spec PyProof.Rows L2 Evl
section
variable {K : PySem.W.Frag} {σ : L2.St} {H : Hp} {ta tb te tl : TE}
/-- a list comprehension over a new list of triples, each taken apart by its target -/
theorem el_lcTs {g : TG} {tt : TT} {vs : List Nat} {ts : List Tie} (put : L2.St → Tie → L2.St) (f : Tie → Bool) (v : Tie → Int) (h : EvLT K tl σ H ts) (hz : ts.length ≤ 40000)
    (hg : ∀ y t σ' H1 (Q : L2.St → Hp → Prop), IsTie K H1 y t → Q (put σ' t) H1 → g y σ' H1 Q) (hw : ∀ t, wipe (put (wipe σ vs) t) vs = wipe σ vs) (ht : ∀ t H1, Ex H H1 → EvT tt (put (wipe σ vs) t) H1 (f t)) (he : ∀ t H1, Ex H H1 → f t = true → Ev te (put (wipe σ vs) t) H1 (.int (v t))) :
    EvL (tLc (iList K tl) g tt te vs) σ H (((ts.filter f).map v).map L2.V.int) := fun H0 e Q q => h H0 e _ fun a H1 us ha e1 hx hT => ⟨a, rfl, ⟨us, sq_of hx⟩, fun Dl hD =>
  lc_list (xs := us) (fun i H' => H1 Dl = none ∧ Ex H1 H' ∧ H' Dl = some (.lst ((((ts.take i).filter f).map v).map L2.V.int))) ⟨hD, Ex.new hD, upd_same⟩ (fun i H' _ p => sq_of (p.2.1 a _ hx)) (fun i x H' hi p => by
      obtain ⟨p1, p2, p3⟩ := p
      obtain ⟨t, ht', hx2⟩ := paired_at hT hi
      have li : i < ts.length := (List.getElem?_eq_some_iff.mp ht').1
      refine hg x t _ _ _ (hx2.kp (Kp.of p2)) ⟨hw t, ?_⟩
      refine ht t H1 (e.trans e1) H' p2 _ fun H3 e3 => ?_
      have hlen : ((((ts.take i).filter f).map v).map L2.V.int).length ≤ 40000 := by
        rw [List.length_map, List.length_map]
        have h1 := List.length_filter_le f (ts.take i)
        rw [List.length_take] at h1
        omega
      cases hf : f t with
      | true =>
        refine ifT rfl (he t H1 (e.trans e1) hf H3 (p2.trans e3) _ fun H4 e4 => ⟨_, e4 _ _ (e3 _ _ p3), sz_lt (by omega), p1, Ex.mut ((p2.trans e3).trans e4) p1, ?_⟩)
        rw [List.take_add_one, ht', upd_same, List.filter_append, List.map_append, List.map_append]
        show _ = some (HO.lst (_ ++ (([t].filter f).map v).map L2.V.int))
        rw [List.filter_cons, if_pos hf]
        rfl
      | false =>
        refine ifF rfl ⟨p1, p2.trans e3, ?_⟩
        rw [List.take_add_one, ht', List.filter_append, List.map_append, List.map_append]
        have e0 : (((Option.some t).toList.filter f).map v).map L2.V.int = [] := by
          show (([t].filter f).map v).map L2.V.int = []
          rw [List.filter_cons, if_neg (by rw [hf]; decide)]
          rfl
        rw [e0, List.append_nil]
        exact e3 _ _ p3)
    (fun H' p => by
      have el : us.length = ts.length := hT.length
      have h3 := p.2.2
      rw [el, List.take_of_length_le (Nat.le_refl _)] at h3
      exact q Dl H' (fresh_back e1 p.1) (e1.trans p.2.1) h3)⟩
end
section
variable {P : Program} {w : World} {K : PySem.W.Frag} {mg : Str → Option Value} {base : Heap}
/-! ### _law_turns -/
def turnTs (xs : List (Nat × Int × Int)) : List Tie := xs.map fun x => ((x.1 : Int), x.2.1, x.2.2)
theorem turns_len {d : Nat → Int} {stop : Int} : ∀ (es : List Nat) (here : Int), (turnsOf d stop es here).length ≤ es.length
  | [], _ => Nat.le_refl _
  | l :: r, here => by
    show (if here < min stop (d l) then (l, here, min stop (d l)) :: turnsOf d stop r (min stop (d l)) else turnsOf d stop r here).length ≤ r.length + 1
    split
    · exact Nat.succ_le_succ (turns_len r _)
    · exact Nat.le_succ_of_le (turns_len r _)
def sp_law_turns (K : PySem.W.Frag) : Sp := fun vs H Q _ => ∃ (ra da : Addr) (row : List Nat) (d : List Int) (b : Int) (e : Option Int), vs = [.ref ra, .ref da, .int b, optV e] ∧ IsNats K H ra row ∧ IsInts K H da d ∧ (∀ l ∈ row, l < d.length) ∧ row.length ≤ 10 ∧
  ∀ p us H', H p = none → Ex H H' → H' p = some (.lst us) → TiesV K H' us (turnTs (turnsOf (dl d) (untilOf e) row b)) → Q (.ref p) H'
theorem b_law_turns (G : Gs mg) (k : Nat) : Body P w K mg base k "_law_turns" s_law_turns n_law_turns (sp_law_turns K) := by
  rintro f cdv A outer s H vs Q E hr ⟨ra, da, row, d, b, e, rfl, hrow, hd, hlt, hlen, q⟩
  have nd' := sc_law_turns.nd
  refine ⟨_, pss_cons (ps_set (i := 4) nd' rfl (.inl rfl) (pe_ifExp (pt_cmpR op_isN (pv 3) pe_non (nomark _)) pe_int (pv 3)))
    (pss_cons (ps_set (i := 5) nd' rfl (.inl rfl) (pe_lst pa_nil))
    (pss_cons (ps_set (i := 6) nd' rfl (.inl rfl) (pv 2))
    (pss_cons (ps_for PassesOwn.never rfl (pi_list (pv 0)) (pg_name (i := 7) nd' rfl (.inl rfl))
      (pss_cons (ps_set (i := 8) nd' rfl (.inl rfl) (pe_callB (call_min2 rfl) rfl G.min PyProof.Rows.boot_min (pa_cons (pv 4) (pa_cons (pe_ix ix_list (pv 1) (pv 7) (fun _ _ => rfl)) pa_nil))))
      (pss_one (ps_if (pt_cmpR op_gt (pv 8) (pv 6) (nomark _))
        (pss_cons (ps_expr (pe_bm PySem.F.plainAttrs_list PySem.F.slot_list_append PySem.F.type_list_append mt_append (pv 5) (pa_cons (pe_tup (pa_cons (pv 7) (pa_cons (pv 6) (pa_cons (pv 8) pa_nil)))) pa_nil)))
        (pss_one (ps_set (i := 6) nd' rfl (.inl rfl) (pv 8)))) pss_nil))))
    (pss_one (ps_ret (pv 5)))))), ?_⟩
  refine q_asg (v := .int (untilOf e)) ?_ fun H1 e1 => ?_
  · cases e with
    | none => exact ev_if (b := true) (et_test (ev_op (ev_var rfl) ev_c (fun H2 _ _ q' => ⟨rfl, q' H2 (Ex.refl H2)⟩))) (fun _ => ev_c) (fun h => by cases h)
    | some i => exact ev_if (b := false) (et_test (ev_op (ev_var rfl) ev_c (fun H2 _ _ q' => ⟨rfl, q' H2 (Ex.refl H2)⟩))) (fun h => by cases h) (fun _ => ev_var rfl)
  refine q_asgL (el_lst ea_nil (Nat.zero_le _)) fun fo H2 ff e2 h2 => q_asg (v := .int b) (ev_var rfl) fun H3 e3 => ?_
  have ffo : H fo = none := fresh_back e1 ff
  refine q_forLn (K := K) (a := ra) (xs := natV row) (ev_var rfl) (ex_l ((e1.trans e2).trans e3) hrow) (fun i σ' H' => ∃ (here : Int) (x7 x8 : Option L2.V) (us : List L2.V) (found : List (Nat × Int × Int)), σ' = [some (.ref ra), some (.ref da), some (.int b), some (optV e), some (.int (untilOf e)), some (.ref fo), some (.int here), x7, x8] ∧
    Ex H H' ∧ H' fo = some (.lst us) ∧ TiesV K H' us (turnTs found) ∧ turnsOf (dl d) (untilOf e) row b = found ++ turnsOf (dl d) (untilOf e) (row.drop i) here ∧ found.length ≤ i) ?_ ?_ ?_ ?_
  · intro H4 e4
    exact ⟨b, _, _, [], [], rfl, ((e1.trans e2).trans e3).trans e4, e4 _ _ (e3 _ _ h2), .nil, rfl, Nat.le_refl _⟩
  · rintro i σ' H' _ ⟨_, _, _, _, _, _, ee, _⟩
    exact ex_l ee hrow
  · rintro i x σ' H' hx ⟨here, x7, x8, us, found, rfl, ee, hf, hT, hq, hfl⟩
    obtain ⟨l, hl, rfl⟩ := natV_get hx
    have hm := List.mem_of_getElem? hl
    have il : i < row.length := (List.getElem?_eq_some_iff.mp hl).1
    have hdrop : row.drop i = l :: row.drop (i + 1) := by
      rw [List.drop_eq_getElem_cons il]
      rw [List.getElem?_eq_getElem il] at hl
      rw [Option.some.inj hl]
    rw [hdrop] at hq
    have hq2 : turnsOf (dl d) (untilOf e) row b = found ++ (if here < min (untilOf e) (dl d l) then (l, here, min (untilOf e) (dl d l)) :: turnsOf (dl d) (untilOf e) (row.drop (i + 1)) (min (untilOf e) (dl d l)) else turnsOf (dl d) (untilOf e) (row.drop (i + 1)) here) := hq
    refine q_asg (v := .int (min (untilOf e) (dl d l))) (ev_is (ev_cb (ea_cons (ev_var rfl) (ea_cons (ev_op (ev_var rfl) (ev_var rfl) (rv_ixL (ex_l ee hd) (ints_atI (by omega) (by have := hlt l hm; omega)))) ea_nil)) (fun H2 e2 Q' q' => ⟨_, _, rfl, q' H2 (Ex.refl H2)⟩)) ?_) fun H4 e4 => ?_
    · rw [ifMin]
      rfl
    have ul : us.length = found.length := by rw [hT.length]; unfold turnTs; rw [List.length_map]
    refine s_when (et_test (ev_op (ev_var rfl) (ev_var rfl) rv_I0)) (fun hb H5 e5 => ?_) (fun hb H5 e5 => ?_)
    · have e45 := e4.trans e5
      rw [if_pos (of_decide_eq_true hb)] at hq2
      refine q_appU (l := fo) (xs := us) (ys := [.int (l : Int), .int here, .int (min (untilOf e) (dl d l))]) (e45 _ _ hf) (ev_var rfl) (eu_tup (ea_cons (ev_var rfl) (ea_cons (ev_var rfl) (ea_cons (ev_var rfl) ea_nil))) (by show 3 ≤ 100000; omega)) (by omega) fun p H6 fp e6 h6 => ?_
      have e46 := e45.trans e6
      have hp : IsTie K H6 (.ref p) ((l : Int), here, min (untilOf e) (dl d l)) := IsTie.of h6
      have T2 : TiesV K (upd H6 fo (.lst (us ++ [.ref p]))) (us ++ [.ref p]) (turnTs (found ++ [(l, here, min (untilOf e) (dl d l))])) := by
        unfold turnTs
        rw [List.map_append]
        exact TiesV.lst (e46 _ _ hf) (paired_app (hT.kp (Kp.of e46)) (.cons hp .nil))
      have e7 : Ex H (upd H6 fo (.lst (us ++ [.ref p]))) := Ex.mut (ee.trans e46) ffo
      have h7 : upd H6 fo (.lst (us ++ [.ref p])) fo = some (.lst (us ++ [.ref p])) := upd_same
      generalize upd H6 fo (.lst (us ++ [.ref p])) = H7 at T2 e7 h7
      refine s_asg (v := .int (min (untilOf e) (dl d l))) (ev_var rfl) fun H8 e8 => ⟨_, _, _, us ++ [.ref p], found ++ [(l, here, min (untilOf e) (dl d l))], rfl, e7.trans e8, e8 _ _ h7, T2.kp (Kp.of e8), ?_, ?_⟩
      · rw [hq2, List.append_assoc]
        rfl
      · rw [List.length_append]
        show found.length + 1 ≤ i + 1
        omega
    · rw [if_neg (of_decide_eq_false hb)] at hq2
      exact ⟨here, _, _, us, found, rfl, ee.trans (e4.trans e5), (e4.trans e5) _ _ hf, hT.kp (Kp.of (e4.trans e5)), hq2, by omega⟩
  · rintro σ' H' ⟨here, x7, x8, us, found, rfl, ee, hf, hT, hq, hfl⟩
    rw [natV_len, List.drop_of_length_le (Nat.le_refl _)] at hq
    have hq2 : turnsOf (dl d) (untilOf e) row b = found := by rw [hq]; exact List.append_nil _
    exact s_ret (ev_var rfl) fun H4 e4 => q fo us H4 ffo (ee.trans e4) (e4 _ _ hf) (by rw [hq2]; exact hT.kp (Kp.of e4))
/-! ### _law_count -/
theorem cntT_ts (own : Nat) : ∀ xs : List (Nat × Int × Int), cntT own xs = (((turnTs xs).filter fun t : Tie => decide (t.1 = (own : Int))).map fun t : Tie => t.2.2 - t.2.1).sum
  | [] => rfl
  | x :: xs => by
    have ih := cntT_ts own xs
    rw [cntT_cons, ih]
    show _ = ((((((x.1 : Int), x.2.1, x.2.2) : Tie) :: turnTs xs).filter fun t : Tie => decide (t.1 = (own : Int))).map fun t : Tie => t.2.2 - t.2.1).sum
    rw [List.filter_cons]
    by_cases h : x.1 = own
    · rw [if_pos h, if_pos (decide_eq_true (show ((x.1 : Nat) : Int) = (own : Int) by rw [h])), List.map_cons, List.sum_cons]
    · rw [if_neg h, if_neg (show ¬ decide (((x.1 : Nat) : Int) = (own : Int)) = true from fun z => h (by have := of_decide_eq_true z; omega)), Int.zero_add]
def sp_law_count (K : PySem.W.Frag) : Sp := fun vs H Q _ => ∃ (ra da : Addr) (es rest : List Nat) (own : Nat) (d : List Int) (b : Int) (e : Option Int), vs = [.ref ra, .ref da, .int (own : Int), .int b, optV e] ∧ IsNats K H ra (es ++ own :: rest) ∧ IsInts K H da d ∧ (∀ l ∈ es ++ own :: rest, l < d.length) ∧ (es ++ own :: rest).length ≤ 10 ∧ own ∉ es ∧ own ∉ rest ∧
  RetV (.int (cnt (dl d) es own b (untilOf e))) H Q
theorem b_law_count (G : Gs mg) {k : Nat} (C1 : C8.Cal P w K mg base k "_law_turns" (sp_law_turns K) []) {j : Nat} (hk : k ≤ j) : Body P w K mg base j "_law_count" s_law_count n_law_count (sp_law_count K) := by
  rintro f cdv A outer s H vs Q E hr ⟨ra, da, es, rest, own, d, b, e, rfl, hrow, hd, hlt, hlen, n1, n2, q⟩
  have nd' := sc_law_count.nd
  refine ⟨_, pss_one (ps_ret (pe_callB (cr_sum rfl) rfl G.sum (by decide +kernel) (pa_cons
    (pe_lc (own := [("_law_own", 5), ("_law_first", 6), ("_law_last", 7)]) (g := gTup K 3 (gCons (gName 5) (gCons (gName 6) (gCons (gName 7) gNil)))) rfl nd' (pi_list (C8.pe_c C1 hr hk rfl (pa_cons (pv 0) (pa_cons (pv 1) (pa_cons (pv 3) (pa_cons (pv 4) pa_nil))))))
      (blkOk_by (own := [("_law_own", 5), ("_law_first", 6), ("_law_last", 7)]) (N := n_law_count) (sc := defScope s_law_count) (by decide +kernel))
      (fun _ _ _ _ _ => pg_tup rfl (pgs_cons (pg_name (i := 5) nd' rfl (.inl rfl)) (pgs_cons (pg_name (i := 6) nd' rfl (.inl rfl)) (pgs_cons (pg_name (i := 7) nd' rfl (.inl rfl)) pgs_nil))))
      (fun _ _ _ _ _ => pts_one (pt_cmpR op_eq (pv 5) (pv 2) (nomark _))) (fun _ _ _ _ _ => pe_op op_sub (pv 7) (pv 6))) pa_nil))), ?_⟩
  have hcomp := el_lcTs (K := K) (σ := [some (.ref ra), some (.ref da), some (.int (own : Int)), some (.int b), some (optV e), none, none, none]) (H := H) (vs := [5, 6, 7]) (ts := turnTs (turnsOf (dl d) (untilOf e) (es ++ own :: rest) b)) (tl := tCall (sp_law_turns K) [] C8.E0 (tCons (tVar 0) (tCons (tVar 1) (tCons (tVar 3) (tCons (tVar 4) tNil)))))
    (g := gTup K 3 (gCons (gName 5) (gCons (gName 6) (gCons (gName 7) gNil)))) (tt := tTest (tOp rEq (tVar 5) (tVar 2))) (te := tOp (rI0 fun i j => .int (i - j)) (tVar 7) (tVar 6))
    (fun σ' t => ((σ'.set 5 (some (.int t.1))).set 6 (some (.int t.2.1))).set 7 (some (.int t.2.2))) (fun t => decide (t.1 = (own : Int))) (fun t => t.2.2 - t.2.1) ?_ ?_ ?_ (fun t => rfl) (fun t H1 e1 => ?_) (fun t H1 e1 _ => ev_op (ev_var rfl) (ev_var rfl) rv_sub)
  · exact s_ret (ev_cbL hcomp fun p H1 h1 e1 H2 e2 Q' q' => ⟨p, _, rfl, sq_of (e2 _ _ h1), by
      rw [← cntT_ts, cntT_turns n2 es b n1]
      exact q' H2 (Ex.refl H2)⟩) fun H3 e3 => q H3 e3
  · refine fun H1 e1 Q' q' => ⟨_, rfl, _, rfl, _, rfl, _, rfl, ra, da, _, d, b, e, rfl, ex_l e1 hrow, ex_l e1 hd, hlt, hlen, fun p us H' fp e2 hp hT => q' p H' us fp e2 hp hT⟩
  · unfold turnTs
    rw [List.length_map]
    have := turns_len (d := dl d) (stop := untilOf e) (es ++ own :: rest) b
    omega
  · rintro y t σ' H1 Q' ⟨p, rfl, hp⟩ q'
    exact ⟨p, _, rfl, hp, rfl, _, _, rfl, _, _, rfl, _, _, rfl, rfl, q'⟩
  · refine et_test (ev_is (ev_op (ev_var rfl) (ev_var rfl) (rv_eq rfl)) ?_)
    by_cases h : t.1 = (own : Int)
    · rw [decide_eq_true h, decide_eq_true (by rw [h])]
    · rw [decide_eq_false h, decide_eq_false (fun z => h (L2.V.int.inj z))]
/-! ### _law_good_way -/
def sp_law_good_way (K : PySem.W.Frag) : Sp := fun vs H Q _ => ∃ (a ta : Addr) (m : Nat) (ts : List Tie) (d : List Int), vs = [.ref a, .int (m : Int), .ref ta] ∧ H a = some (.lst (d.map L2.V.int)) ∧ m ≤ 10 ∧ Way m ts d ∧ IsTies K H ta ts ∧ (∀ t ∈ ts, GoodTie m t) ∧ ts.length ≤ 1000 ∧ RetV (.bl true) H Q
theorem b_law_good_way (G : Gs mg) {k : Nat} (C1 : C8.Cal P w K mg base k "_law_num" sp_law_num []) (C2 : C8.Cal P w K mg base k "_law_kept" (sp_law_kept K) []) {j : Nat} (hk : k ≤ j) : Body P w K mg base j "_law_good_way" s_law_good_way n_law_good_way (sp_law_good_way K) := by
  rintro f cdv A outer s H vs Q E hr ⟨a, ta, m, ts, d, rfl, hd, hm, hw, ⟨us, hu, hts⟩, hg, hlen, q⟩
  have nd' := sc_law_good_way.nd
  refine ⟨_, pss_cons (ps_if (PW.pt (pw_or (pt_not (pt_val (pe_callB call_isi rfl G.isin PyProof.Rows.boot_isinstance (pa_cons (pv 0) (pa_cons (pe_bltn (v := .ty "list") rfl G.list PyProof.Rows.boot_list rfl) pa_nil)))))
      (pw_or1 (pt_cmpR op_ne (pe_callB call_len_seq rfl G.len PySem.boot_len (pa_cons (pv 0) pa_nil)) (pv 1) (nomark _))))) pss_never pss_nil)
    (pss_cons (ps_if (pt_not (pt_val (pe_callB (cr_all rfl) rfl G.all PyProof.Rows.boot_all (pa_cons
        (pe_lc (own := [("_law_day", 3)]) (g := gName 3) rfl nd' (pi_list (pv 0)) (blkOk_by (own := [("_law_day", 3)]) (N := n_law_good_way) (sc := defScope s_law_good_way) (by decide +kernel))
          (fun _ _ _ _ _ => pg_name (i := 3) nd' rfl (.inl rfl)) (fun _ _ _ _ _ => pts_nil) (fun _ _ _ _ _ => pe_and (C8.pe_c C1 hr hk rfl (pa_cons (pv 3) pa_nil)) (pe_one (pe_chain op_le op_le pe_int (pv 3) pe_int)))) pa_nil)))) pss_never pss_nil)
    (pss_one (ps_ret (pe_callB (cr_all rfl) rfl G.all PyProof.Rows.boot_all (pa_cons
        (pe_lc (own := [("_law_tie", 4)]) (g := gName 4) rfl nd' (pi_list (pv 2)) (blkOk_by (own := [("_law_tie", 4)]) (N := n_law_good_way) (sc := defScope s_law_good_way) (by decide +kernel))
          (fun _ _ _ _ _ => pg_name (i := 4) nd' rfl (.inl rfl)) (fun _ _ _ _ _ => pts_nil) (fun _ _ _ _ _ => C8.pe_c C2 hr hk rfl (pa_cons (pv 0) (pa_cons (pv 4) pa_nil)))) pa_nil))))), ?_⟩
  have el : us.length = ts.length := hts.length
  refine ⟨_, rfl, _, _, _, _, _, rfl, .ty _, .base (.lst hd), kit_ty (r := true) (by decide +kernel), _, rfl, ifF rfl ⟨_, rfl, a, _, rfl, .inl (sq_of hd), _, rfl, rfl, _, rfl, ifF ?_ ?_⟩⟩
  · rw [List.length_map, hw.len]
    rw [decide_eq_true rfl]
    rfl
  have hc1 := el_lcL (K := K) (a := a) (σ := [some (.ref a), some (.int (m : Int)), some (.ref ta), none, none]) (H := H) (j := 3) (vs := [3]) (xs := d.map L2.V.int) (tl := tVar 0) (fun _ => true) (fun i => L2.V.bl true) (t := tYes)
    (te := tAndV (tCall sp_law_num [] C8.E0 (tCons (tVar 3) tNil)) (tChain (rI0 fun i j => .bl (decide (i ≤ j))) (rI0 fun i j => .bl (decide (i ≤ j))) (tC (.int 0)) (tVar 3) (tC (.int 9999))))
    (ev_var rfl) (sq_of hd) (by rw [List.length_map, hw.len]; omega) (fun x => rfl) (fun i x H1 _ _ H2 _ Q' q' => q' H2 (Ex.refl H2)) (fun i x H5 e5 hx _ => by
      obtain ⟨y, hy, rfl⟩ := ints_get hx
      have y0 := hw.lo y (List.mem_of_getElem? hy)
      have y1 := hw.hi y (List.mem_of_getElem? hy)
      refine ev_is (w := .bl true) (ev_andV (a := true) (b := true) (ev_call (ea_cons (ev_var rfl) ea_nil) fun H6 e6 Q' q' E' => ⟨y, rfl, q' H6 (Ex.refl H6)⟩) fun _ => fun H6 e6 Q' q' => ⟨_, rfl, _, _, rfl, rfl, _, rfl, ifT (decide_eq_true y0) ⟨_, _, rfl, rfl, q_bl (decide_eq_true y1) (q' H6 (Ex.refl H6))⟩⟩) rfl)
  rw [given_all] at hc1
  refine s_when (b := false) (et_not (a := true) (et_B (ev_cbL hc1 fun p H5 h5 _ => rc_all (bs := (List.range d.length).map fun _ => true) (b := true) (sq_of (by rw [h5, List.map_map, List.length_map]; rfl)) (by rw [List.all_map]; exact List.all_eq_true.mpr fun _ _ => rfl)))) (fun h => by cases h) (fun _ H1 e1 => ?_)
  have hc2 := el_lcL (K := K) (a := ta) (σ := [some (.ref a), some (.int (m : Int)), some (.ref ta), none, none]) (H := H1) (j := 4) (vs := [4]) (xs := us) (tl := tVar 2) (fun _ => true) (fun i => L2.V.bl true) (t := tYes) (te := tCall (sp_law_kept K) [] C8.E0 (tCons (tVar 0) (tCons (tVar 4) tNil)))
    (ev_var rfl) (ex_l e1 hu) (by omega) (fun x => rfl) (fun i x H1 _ _ H2 _ Q' q' => q' H2 (Ex.refl H2)) (fun i x H5 e5 hx _ => by
      obtain ⟨u, hut, hxt⟩ := paired_at hts hx
      have hmem := List.mem_of_getElem? hut
      refine ev_call (ea_cons (ev_var rfl) (ea_cons (ev_var rfl) ea_nil)) fun H6 e6 Q' q' E' => ⟨a, d, x, u, rfl, sq_of (((e1.trans e5).trans e6) _ _ hd), hxt.kp (Kp.of ((e1.trans e5).trans e6)), by rw [hw.len]; exact hg u hmem, fun H7 e7 => ?_⟩
      have hk : keptB d u = true := decide_eq_true (hw.tie u hmem)
      rw [hk]
      exact q' H7 e7)
  rw [given_all] at hc2
  exact s_ret (ev_cbL hc2 fun p H5 h5 _ => rc_all (bs := (List.range us.length).map fun _ => true) (b := true) (sq_of (by rw [h5, List.map_map]; rfl)) (by rw [List.all_map]; exact List.all_eq_true.mpr fun _ _ => rfl)) fun H3 e3 => q H3 (e1.trans e3)
end
end Lh
namespace Lh
open PySem PySem.Spec PyProof.Rows L2 Evl
section
variable {K : PySem.W.Frag} {σ : L2.St} {H : Hp} {ta tb te tl tr to : TE}
/-- row[:row.index(own)] -/
theorem el_elders {ra : Addr} {es rest : List Nat} {own : Nat} (h : IsNats K H ra (es ++ own :: rest)) (hn : own ∉ es) (h1 : Ev tr σ H (.ref ra)) (h2 : Ev to σ H (.int (own : Int))) :
    EvL (tSl (rSlL K) tr tNoPart (tPart (tBM K "list" (rIndex K) tr (tCons to tNil)))) σ H (natV es) := by
  obtain ⟨g1, g2⟩ := nat_index (rest := rest) hn
  have hs := el_sl (K := K) (tl := tNoPart) (th := tPart (tBM K "list" (rIndex K) tr (tCons to tNil))) (lo := none) (hi := some (es.length : Int)) h1 eo_none (eo_some (fun H1 e1 Q q => h1 H1 e1 _ fun H2 e2 => ⟨.inl ⟨rfl, _, ex_l (e1.trans e2) h⟩,
    h2 H2 (e1.trans e2) _ fun H3 e3 => ⟨ra, _, _, es.length, _, rfl, rfl, ex_l ((e1.trans e2).trans e3) h, rfl, natV_flat _, g1, by rw [eqV_int]; exact decide_eq_true rfl, g2, q H3 (e2.trans e3)⟩⟩)) h
  rw [cut_to (by rw [natV_len, List.length_append]; omega), natV_take] at hs
  exact hs
/-- xs + [..] -/
theorem el_cat {l : Addr} {xs ys : List L2.V} (hl : H l = some (.lst xs)) (ha : Ev ta σ H (.ref l)) (hb : EvL tb σ H ys) (hz : xs.length + ys.length ≤ 100000) : EvL (tOp rCat ta tb) σ H (xs ++ ys) := fun H1 e Q q =>
  ha H1 e _ fun H2 e2 => hb H2 (e.trans e2) _ fun b H3 _ e3 hb3 => ⟨l, b, xs, ys, rfl, rfl, ((e.trans e2).trans e3) l _ hl, hb3, sz_of hz, fun p hp => q p _ (fresh_back (e2.trans e3) hp) ((e2.trans e3).trans (Ex.new hp)) upd_same⟩
end
section
variable {P : Program} {w : World} {K : PySem.W.Frag} {mg : Str → Option Value} {base : Heap}
/-! ### _law_more -/
def sp_law_more (K : PySem.W.Frag) : Sp := fun vs H Q _ => ∃ (ta ra : Addr) (m : Nat) (ts : List Tie) (es rest : List Nat) (own : Nat) (start : Int) (e : Option Int) (us : List L2.V) (z : Int), vs = [.int (m : Int), .ref ta, .ref ra, .int (own : Int), .int start, .int (untilOf e), .int (z + 1)] ∧
  Asking K H ta ra m ts es rest own start e ∧ H ta = some (.lst us) ∧ TiesV K H us ts ∧ 0 ≤ z ∧ IsMost m ts es own start (untilOf e) z ∧ RetV (.bl false) H Q
theorem b_law_more {k : Nat} (C1 : C8.Cal P w K mg base k "_law_early" (sp_law_early K) []) {j : Nat} (hk : k ≤ j) : Body P w K mg base j "_law_more" s_law_more n_law_more (sp_law_more K) := by
  rintro f cdv A outer s H vs Q E hr ⟨ta, ra, m, ts, es, rest, own, start, e, us, z, rfl, a, hta, hus, z0, hz, q⟩
  have nd' := sc_law_more.nd
  refine ⟨_, pss_cons (ps_set (i := 7) nd' rfl (.inl rfl) (pe_lst (pa_cons (pe_tup (pa_cons (pv 3) (pa_cons (pe_un un_neg pe_int) (pa_cons (pe_op op_add (pv 4) (pv 6)) pa_nil)))) pa_nil)))
    (pss_cons (ps_for PassesOwn.never rfl (pi_list (pe_slice sl_list (pv 2) po_none (po_some (pe_bm PySem.F.plainAttrs_list PySem.F.slot_list_index PySem.F.type_list_index mt_index (pv 2) (pa_cons (pv 3) pa_nil))))) (pg_name (i := 8) nd' rfl (.inl rfl))
      (pss_one (ps_set (i := 7) nd' rfl (.inl rfl) (pe_op op_cat (pv 7) (pe_lst (pa_cons (pe_tup (pa_cons (pv 3) (pa_cons (pv 8) (pa_cons (pv 6) pa_nil)))) (pa_cons (pe_tup (pa_cons (pe_un un_neg pe_int) (pa_cons (pv 8) (pa_cons (pe_op op_sub (pv 6) (pv 5)) pa_nil)))) pa_nil)))))))
    (pss_one (ps_ret (pe_and (pe_cmpR op_ge (pe_op op_sub (pv 5) (pv 4)) (pv 6) (nomark _)) (pe_one (pe_cmpR op_notN (C8.pe_c C1 hr hk rfl (pa_cons (pv 0) (pa_cons (pe_op op_cat (pv 1) (pv 7)) pa_nil))) pe_non (nomark _))))))), ?_⟩
  have hes := a.es4
  have hut : us.length = ts.length := hus.length
  have htl := a.tl
  refine q_asgTs (K := K) (ts := [((own : Int), -1, start + (z + 1))]) (elt_lst (ets_cons (ev_var rfl) (ev_un ev_c ru_neg) (ev_op (ev_var rfl) (ev_var rfl) rv_add) ets_nil) (by show 1 ≤ 100000; omega)) fun mo H1 vs fm e1 h1 hv => ?_
  refine q_forNLn (K := K) (el_elders (K := K) (ra := ra) (ex_l e1 a.row) a.hn (ev_var rfl) (ev_var rfl)) (fun it i σ' H' => ∃ (mo : Addr) (x8 : Option L2.V) (vs : List L2.V), σ' = [some (.int (m : Int)), some (.ref ta), some (.ref ra), some (.int (own : Int)), some (.int start), some (.int (untilOf e)), some (.int (z + 1)), some (.ref mo), x8] ∧ Ex H H' ∧
    H' it = some (.lst (natV es)) ∧ H' mo = some (.lst vs) ∧ TiesV K H' vs (moreT (es.take i) own start (untilOf e) (z + 1))) ?_ ?_ ?_ ?_
  · intro it H2 fit e2 hit
    exact ⟨mo, _, vs, rfl, e1.trans e2, hit, e2 _ _ h1, hv.kp (Kp.of e2)⟩
  · rintro it i σ' H' _ ⟨_, _, _, _, _, hit, _⟩
    exact sq_of hit
  · rintro it i x σ' H' hx ⟨mo, x8, vs, rfl, ee, hit, h2, hv⟩
    obtain ⟨el, hel, rfl⟩ := natV_get hx
    have hi : i < es.length := (List.getElem?_eq_some_iff.mp hel).1
    have lv : vs.length ≤ 9 := by
      rw [hv.length, moreT_len, List.length_take]
      omega
    refine s_catTs (K := K) (ts := [((own : Int), (el : Int), z + 1), (-1, (el : Int), z + 1 - untilOf e)]) h2 (ev_var rfl) (elt_lst (ets_cons (ev_var rfl) (ev_var rfl) (ev_var rfl) (ets_cons (ev_un ev_c ru_neg) (ev_var rfl) (ev_op (ev_var rfl) (ev_var rfl) rv_sub) ets_nil)) (by show 2 ≤ 100000; omega)) (by show vs.length + 2 ≤ 100000; omega) fun p H2 zs _ e2 hp hz => ?_
    refine ⟨p, _, vs ++ zs, rfl, ee.trans e2, e2 _ _ hit, hp, ?_⟩
    rw [moreT_snoc hel]
    exact paired_app (hv.kp (Kp.of e2)) hz
  · rintro it σ' H' ⟨mo, x8, vs, rfl, ee, hit, h2, hv⟩
    rw [natV_len, List.take_of_length_le (Nat.le_refl _)] at hv
    have lv : vs.length ≤ 9 := by
      rw [hv.length, moreT_len]
      omega
    have fin : ∀ H3, Ex H' H3 → Q (.bl false) H3 := fun H3 e3 => q H3 (ee.trans e3)
    refine ⟨_, rfl, _, rfl, _, _, rfl, rfl, _, rfl, _, _, rfl, rfl, _, rfl, ?_⟩
    by_cases hc : z + 1 ≤ untilOf e - start
    · refine ifT (decide_eq_true hc) ⟨_, rfl, _, rfl, _, rfl, ta, mo, us, vs, rfl, rfl, ee _ _ hta, h2, sz_of (by omega), fun b hb => ?_⟩
      have e4 : Ex H' (upd H' b (.lst (us ++ vs))) := Ex.new hb
      refine ⟨m, b, ts ++ moreT es own start (untilOf e) (z + 1), rfl, a.m0, a.m1, ⟨us ++ vs, sq_of upd_same, paired_app (hus.kp (Kp.of (ee.trans e4))) (hv.kp (Kp.of e4))⟩, a.ask.moreGood _, by rw [List.length_append, moreT_len]; omega, fun H3 e3 => ⟨rfl, fin H3 (e4.trans e3)⟩, fun d p H3 e3 wd => ?_⟩
      exact (a.ask.no_more hz z0 (by omega) wd).elim
    · exact ifF (decide_eq_false hc) (fin H' (Ex.refl H'))
/-! ### _law_least -/
def sp_law_least (K : PySem.W.Frag) : Sp := fun vs H Q _ => ∃ (ta ra : Addr) (m : Nat) (ts : List Tie) (es rest : List Nat) (own : Nat) (start : Int) (e : Option Int), vs = [.int (m : Int), .ref ta, .ref ra, .int (own : Int), .int start, .int (untilOf e)] ∧
  Asking K H ta ra m ts es rest own start e ∧ ∀ z H', Ex H H' → IsFew m ts es own start (untilOf e) z → Q (.int z) H'
theorem b_law_least (G : Gs mg) {k : Nat} (C1 : C8.Cal P w K mg base k "_law_gap" (sp_law_gap K) []) {j : Nat} (hk : k ≤ j) : Body P w K mg base j "_law_least" s_law_least n_law_least (sp_law_least K) := by
  rintro f cdv A outer s H vs Q E hr ⟨ta, ra, m, ts, es, rest, own, start, e, rfl, a, q⟩
  have nd' := sc_law_least.nd
  refine ⟨_, pss_cons (ps_set (i := 6) nd' rfl (.inl rfl) (pe_lst (pa_cons (pe_op op_sub (pv 5) (pv 4)) (pa_cons (pe_op op_sub (C8.pe_c C1 hr hk rfl (pa_cons (pv 0) (pa_cons (pv 1) (pa_cons (pv 3) (pa_cons (pe_un un_neg pe_int) pa_nil))))) (pv 4)) pa_nil))))
    (pss_cons (ps_for PassesOwn.never rfl (pi_list (pe_slice sl_list (pv 2) po_none (po_some (pe_bm PySem.F.plainAttrs_list PySem.F.slot_list_index PySem.F.type_list_index mt_index (pv 2) (pa_cons (pv 3) pa_nil))))) (pg_name (i := 7) nd' rfl (.inl rfl))
      (pss_one (ps_set (i := 6) nd' rfl (.inl rfl) (pe_op op_cat (pv 6) (pe_lst (pa_cons (C8.pe_c C1 hr hk rfl (pa_cons (pv 0) (pa_cons (pv 1) (pa_cons (pv 3) (pa_cons (pv 7) pa_nil)))))
        (pa_cons (pe_op op_add (pv 5) (C8.pe_c C1 hr hk rfl (pa_cons (pv 0) (pa_cons (pv 1) (pa_cons (pe_un un_neg pe_int) (pa_cons (pv 7) pa_nil)))))) pa_nil)))))))
    (pss_one (ps_ret (pe_callB (call_max2 rfl) rfl G.max PyProof.Rows.boot_max (pa_cons pe_int (pa_cons (pe_callB (cr_min rfl) rfl G.min PyProof.Rows.boot_min (pa_cons (pv 6) pa_nil)) pa_nil)))))), ?_⟩
  obtain ⟨U, hU⟩ := a.tab
  have hes := a.es4
  have hm := a.m1
  have good : ∀ t ∈ ts, GoodTie m t := fun t ht => (a.ok t ht).g
  have own_lt : own < m := a.ask.ho
  have es_lt : ∀ l ∈ es, l < m := a.ask.he
  have gp : ∀ {σ : L2.St} {H' : Hp} {t0 t1 t2 t3 : TE} (i o : Int), Ex H H' → -1 ≤ i → i < m → -1 ≤ o → o < m → Ev t0 σ H' (.int (m : Int)) → Ev t1 σ H' (.ref ta) → Ev t2 σ H' (.int i) → Ev t3 σ H' (.int o) →
      Ev (tCall (sp_law_gap K) [] C8.E0 (tCons t0 (tCons t1 (tCons t2 (tCons t3 tNil))))) σ H' (.int (U (nd m i) (nd m o))) := fun i o ee i0 i1 o0 o1 h0 h1 h2 h3 =>
    ev_call (ea_cons h0 (ea_cons h1 (ea_cons h2 (ea_cons h3 ea_nil)))) fun H6 e6 Q' q' E' => ⟨m, ta, ts, i, o, rfl, hm, a.ties.kp (Kp.of (ee.trans e6)), good, by have := a.tl; omega, i0, i1, o0, o1, fun H7 e7 => by
      rw [gap_eq good hU (nd_le i0 i1) (nd_le o0 o1)]
      exact q' H7 e7⟩
  have nO : nd m (own : Int) = own := by
    unfold nd
    rw [if_neg (by omega)]
    exact Int.toNat_natCast _
  have nE : ∀ n : Nat, nd m (n : Int) = n := fun n => by
    unfold nd
    rw [if_neg (by omega)]
    exact Int.toNat_natCast _
  have nB : nd m (-1) = m := rfl
  refine q_asgL (xs := [L2.V.int (untilOf e - start), .int (U (nd m (own : Int)) (nd m (-1)) - start)]) (el_lst (ea_cons (ev_op (ev_var rfl) (ev_var rfl) rv_sub) (ea_cons (ev_op (gp (own : Int) (-1) (Ex.refl H) (by omega) (by omega) (by omega) (by omega) (ev_var rfl) (ev_var rfl) (ev_var rfl) (ev_un ev_c ru_neg)) (ev_var rfl) rv_sub) ea_nil)) (by show 2 ≤ 100000; omega)) fun fo H1 ff e1 h1 => ?_
  refine q_forNLn (K := K) (el_elders (K := K) (ra := ra) (ex_l e1 a.row) a.hn (ev_var rfl) (ev_var rfl)) (fun it i σ' H' => ∃ (fo : Addr) (x7 : Option L2.V), σ' = [some (.int (m : Int)), some (.ref ta), some (.ref ra), some (.int (own : Int)), some (.int start), some (.int (untilOf e)), some (.ref fo), x7] ∧ Ex H H' ∧
    H' it = some (.lst (natV es)) ∧ H' fo = some (.lst (((endings m U (es.take i) own start (untilOf e)).map fun q => q.1).map L2.V.int))) ?_ ?_ ?_ ?_
  · intro it H2 fit e2 hit
    refine ⟨fo, _, rfl, e1.trans e2, hit, ?_⟩
    rw [e2 _ _ h1, nO, nB]
    rfl
  · rintro it i σ' H' _ ⟨_, _, _, _, hit, _⟩
    exact sq_of hit
  · rintro it i x σ' H' hx ⟨fo, x7, rfl, ee, hit, h2⟩
    obtain ⟨el, hel, rfl⟩ := natV_get hx
    have hel2 := es_lt el (List.mem_of_getElem? hel)
    have lv : (((endings m U (es.take i) own start (untilOf e)).map fun q => q.1).map L2.V.int).length ≤ 10 := by
      rw [List.length_map, List.length_map, endings_len, List.length_take]
      omega
    refine s_asgL (el_cat h2 (ev_var rfl) (ys := [L2.V.int (U (nd m (own : Int)) (nd m (el : Int))), .int (untilOf e + U (nd m (-1)) (nd m (el : Int)))]) (el_lst (ea_cons (gp (own : Int) (el : Int) ee (by omega) (by omega) (by omega) (by omega) (ev_var rfl) (ev_var rfl) (ev_var rfl) (ev_var rfl))
      (ea_cons (ev_op (ev_var rfl) (gp (-1) (el : Int) ee (by omega) (by omega) (by omega) (by omega) (ev_var rfl) (ev_var rfl) (ev_un ev_c ru_neg) (ev_var rfl)) rv_add) ea_nil)) (by show 2 ≤ 100000; omega)) (by show _ + 2 ≤ 100000; omega)) fun p H3 _ e3 h3 => ?_
    refine ⟨p, _, rfl, ee.trans e3, e3 _ _ hit, ?_⟩
    rw [h3, endings_snoc hel, List.map_append, List.map_append, nO, nE, nB]
    rfl
  · rintro it σ' H' ⟨fo, x7, rfl, ee, hit, h2⟩
    rw [natV_len, List.take_of_length_le (Nat.le_refl _)] at h2
    refine ⟨_, rfl, fo, _, rfl, sq_of h2, by rw [List.length_map, endings_len]; omega, fun v hv hmin => ⟨0, v, rfl, ?_⟩⟩
    obtain ⟨⟨v', o⟩, hp, rfl⟩ := List.mem_map.mp hv
    have F := a.ask.few hU hp (fun q hq => hmin q.1 (List.mem_map.mpr ⟨q, hq, rfl⟩))
    rw [ifMax]
    exact q _ H' ee F.1
end
end Lh
namespace Lh
open PySem PySem.Spec PyProof.Rows L2 Evl
theorem Fresh.back {H H' : Hp} {p : Addr} (e : Kp H H') (h : Fresh H' p) : Fresh H p := fun o ho => by
  cases o with
  | tbl ps => exact ⟨ps, rfl⟩
  | _ =>
    obtain ⟨ps, z⟩ := h _ (e p _ ho (fun ps z => by cases z))
    cases z
theorem cut_ints {ns : List Int} (lo hi : Option Int) : ∃ ms : List Int, cutV (ns.map L2.V.int) lo hi = ms.map L2.V.int ∧ ms.length ≤ ns.length := by
  unfold cutV
  refine ⟨_, by rw [← List.map_drop, ← List.map_take], ?_⟩
  rw [List.length_take, List.length_drop]
  omega
/-! ### calls with keywords at the end -/
structure CalK (P : Program) (w : World) (K : PySem.W.Frag) (mg : Str → Option Value) (base : Heap) (k : Nat) (x : Str) (n : Nat) (ks : List Str) (sp : Sp) : Prop where
  ex : ∃ (f : Addr) (fd : FuncData) (ps : List Str) (g : List Value → List Value → List Value), FnOk P w K mg base C8.CX0 k f fd ps sp ∧ mg x = some (.ref f) ∧ PySem.W.keepIn K (.ref f) = true ∧ KBn K fd ps n ks g (fun vs zs => vs ++ zs)
structure HasK (K : PySem.W.Frag) (mg : Str → Option Value) (x : Str) (st : Stmt) (ps : List Str) (n : Nat) (ks : List Str) : Prop where
  ex : ∃ (dvs : List L2.V) (f : Addr) (fd : FuncData) (g : List Value → List Value → List Value), FunD K x x (defArgs st) (defBody st) (defScope st) dvs [] f fd ∧ mg x = some (.ref f) ∧ KBn K fd ps n ks g (fun vs zs => vs ++ zs)
section
variable {P : Program} {w : World} {K : PySem.W.Frag} {mg : Str → Option Value} {base : Heap}
theorem HasK.cal {x : Str} {st : Stmt} {N ps ks : List Str} {n k : Nat} {sp : Sp} (D : HasK K mg x st ps n ks) (S : FnScope N ps (defScope st)) (len : ∀ vs H Q E, sp vs H Q E → vs.length = ps.length)
    (hb : Body P w K mg base k x st N sp) : CalK P w K mg base (k + 1) x n ks sp := by
  obtain ⟨dvs, f, fd, g, F, hm, b⟩ := D.ex
  refine ⟨f, fd, ps, g, F.ok S len fun cdv A outer s H vs Q E hr hsp => ?_, hm, F.kp, b⟩
  obtain ⟨t, h, q⟩ := hb f cdv A outer s H vs Q E hr hsp
  exact ⟨t, h.nox, q⟩
end
theorem pe_ck {X : Cx} {k j n : Nat} {x : Str} {sp : Sp} {p pos : Pos} {e : Expr} {es : List Expr} {kws : List Keyword} {ks : List Str} {t tk : TA} (c : CalK X.prog X.w X.K X.mg X.base k x n ks sp) (hr : Room j X.A) (hk : k ≤ j) (hg : Gl X x)
    (ha : PA X (e :: es) t) (hkw : PK X kws tk) (hall : (backToKw pos (keywordEach kws X.env)).all (·.1.isSome) = true := by rfl) (hks : (backToKw pos (keywordEach kws X.env)).filterMap (·.1) = ks := by rfl)
    (hdb : (x == ("__debug__" : Str)) = false := by decide) (he : starEach (e :: es) X.env = (false, eval e X.env) :: starEach es X.env := by rfl)
    (hpl : ((backTo pos (starEach (e :: es) X.env)).any (·.1) || (backToKw pos (keywordEach kws X.env)).any (·.1.isNone)) = false := by rfl) :
    PE X (.Call (.Name x p) (e :: es) kws pos) (tCallN n ks.length sp (fun vs zs => vs ++ zs) C8.E0 t tk) := by
  obtain ⟨f, fd, ps, g, F, hm, kp, b⟩ := c.ex
  exact pe_callN F (hr.mono hk) hg hm kp b C8.pass0 ha hkw hall hks hdb he hpl
/-! ### readings -/
theorem call_go {σ : L2.St} {H : Hp} {ta : TA} {vs dvs : List L2.V} {sp : Sp} {E : XK} {Q : VK} (h : EvA ta σ H vs) (q : ∀ H1, Ex H H1 → sp (vs ++ dvs) H1 Q E) : tCall sp dvs E ta σ H Q := h H (Ex.refl H) _ fun H1 e1 => q H1 e1
theorem ev_chain {σ : L2.St} {H : Hp} {ta tb tc : TE} {a b c : Int} (ha : Ev ta σ H (.int a)) (hb : Ev tb σ H (.int b)) (hc : Ev tc σ H (.int c)) (h1 : a ≤ b) (h2 : b ≤ c) :
    Ev (tChain (rI0 fun i j => .bl (decide (i ≤ j))) (rI0 fun i j => .bl (decide (i ≤ j))) ta tb tc) σ H (.bl true) := fun H1 e Q q => ha H1 e _ fun H2 e2 => hb H2 (e.trans e2) _ fun H3 e3 => ⟨a, b, rfl, rfl, _, rfl, ifT (decide_eq_true h1)
  (hc H3 ((e.trans e2).trans e3) _ fun H4 e4 => ⟨b, c, rfl, rfl, q_bl (decide_eq_true h2) (q H4 ((e2.trans e3).trans e4))⟩)⟩
theorem split_at {row : List Nat} {i own : Nat} (h : row[i]? = some own) : ∃ es rest, row = es ++ own :: rest := by
  obtain ⟨h1, h2⟩ := List.getElem?_eq_some_iff.mp h
  exact ⟨row.take i, row.drop (i + 1), by rw [← h2, ← List.drop_eq_getElem_cons h1, List.take_append_drop]⟩
/-! ### what a turn of law stands on -/
structure Stage (K : PySem.W.Frag) (H : Hp) (m : Nat) (ts : List Tie) (d : List Int) (row : List Nat) (b : Int) (e : Option Int) (ta da ra : Addr) (us : List L2.V) : Prop where
  dr : Drawn m ts d
  hta : H ta = some (.lst us)
  hus : TiesV K H us ts
  hda : H da = some (.lst (d.map L2.V.int))
  hra : H ra = some (.lst (natV row))
  okr : OkRow m row
  run : Run b e
section
variable {K : PySem.W.Frag} {H H' : Hp} {m : Nat} {ts : List Tie} {d : List Int} {row : List Nat} {b : Int} {e : Option Int} {ta da ra : Addr} {us : List L2.V}
theorem Stage.kp (s : Stage K H m ts d row b e ta da ra us) (k : Kp H H') : Stage K H' m ts d row b e ta da ra us :=
  ⟨s.dr, k _ _ s.hta (fun ps z => by cases z), s.hus.kp k, k _ _ s.hda (fun ps z => by cases z), k _ _ s.hra (fun ps z => by cases z), s.okr, s.run⟩
theorem Stage.asks {es rest : List Nat} {own : Nat} (s : Stage K H m ts d (es ++ own :: rest) b e ta da ra us) : Asking K H ta ra m ts es rest own b e :=
  ⟨s.dr.m0, s.dr.m1, by have := s.dr.tl; omega, ⟨us, sq_of s.hta, s.hus⟩, s.dr.ok, ⟨d, s.dr.way⟩, sq_of s.hra, s.okr, s.run⟩
/-- with a new list of the same ties -/
theorem Stage.asksL {es rest : List Nat} {own : Nat} {tb : Addr} (s : Stage K H m ts d (es ++ own :: rest) b e ta da ra us) (h : H tb = none) : Asking K (upd H tb (.lst us)) tb ra m ts es rest own b e := by
  have k : Kp H (upd H tb (.lst us)) := Kp.of (Ex.new h)
  have s2 := s.kp k
  exact ⟨s.dr.m0, s.dr.m1, by have := s.dr.tl; omega, ⟨us, sq_of upd_same, s2.hus⟩, s.dr.ok, ⟨d, s.dr.way⟩, sq_of s2.hra, s.okr, s.run⟩
end
section
variable {P : Program} {w : World} {K : PySem.W.Frag} {mg : Str → Option Value} {base : Heap}
def sp_law (K : PySem.W.Frag) (T : List (Addr × Str)) : Sp := fun vs H Q _ => ∃ (a : Addr) (ns : List Int), vs = [.ref a] ∧ IsInts K H a ns ∧ ns.length ≤ 63 ∧ LamX.Tabs T H ∧ ∀ H', Q (.bl true) H'
theorem b_law {T : List (Addr × Str)} (G : Gs mg) {k : Nat} (Cgr : C8.Cal P w K mg base k "_law_great" (sp_law_great K) []) (Crw : C8.Cal P w K mg base k "_law_row" (sp_law_row K) []) (Crn : C8.Cal P w K mg base k "_law_run" (sp_law_run K) [])
    (Cfd : C8.Cal P w K mg base k "fewest_days" (sp_fewest_days K T) []) (Cmd : CalK P w K mg base k "most_days" 4 ["start", "end"] (sp_most_days K)) (Cle : C8.Cal P w K mg base k "_law_least" (sp_law_least K) [])
    (Csa : C8.Cal P w K mg base k "_law_same" sp_law_same []) (Cnu : C8.Cal P w K mg base k "_law_num" sp_law_num []) (Cco : C8.Cal P w K mg base k "_law_count" (sp_law_count K) []) (Cmo : C8.Cal P w K mg base k "_law_more" (sp_law_more K) [])
    (Cfw : C8.Cal P w K mg base k "fewest_way" (sp_fewest_way K T) []) (Cmw : CalK P w K mg base k "most_way" 5 ["end"] (sp_most_way K)) (Cgw : C8.Cal P w K mg base k "_law_good_way" (sp_law_good_way K) []) {j : Nat} (hk : k ≤ j) : Body P w K mg base j "law" s_law n_law (sp_law K T) := by
  rintro f cdv A outer s H vs Q E hr ⟨a, ns, rfl, hn, hl, hT, q⟩
  have nd' := sc_law.nd
  refine ⟨_, pss_cons (ps_set (i := 0) nd' rfl (.inl rfl) (pe_slice sl_list (pv 0) po_none (po_some pe_int)))
    (pss_cons (ps_for PassesOwn.never rfl (pi_range1 rfl G.range (pa_cons pe_int pa_nil)) (pg_name (i := 1) nd' rfl (.inl rfl))
      (pss_cons (ps_asg (C8.pe_c Cgr hr hk rfl (pa_cons (pv 0) (pa_cons (pe_op op_mul pe_int (pv 1)) (pa_cons pe_int pa_nil)))) (pg_tup rfl (pgs_cons (pg_name (i := 2) nd' rfl (.inl rfl)) (pgs_cons (pg_name (i := 3) nd' rfl (.inl rfl)) (pgs_cons (pg_name (i := 4) nd' rfl (.inl rfl)) (pgs_cons (pg_name (i := 5) nd' rfl (.inl rfl)) pgs_nil))))))
      (pss_cons (ps_set (i := 6) nd' rfl (.inl rfl) (C8.pe_c Crw hr hk rfl (pa_cons (pv 0) (pa_cons (pe_op op_add (pe_op op_mul pe_int (pv 1)) pe_int) (pa_cons (pv 2) pa_nil)))))
      (pss_cons (ps_asg (C8.pe_c Crn hr hk rfl (pa_cons (pv 0) (pa_cons (pe_op op_add (pe_op op_mul pe_int (pv 1)) pe_int) (pa_cons (pv 4) pa_nil)))) (pg_tup rfl (pgs_cons (pg_name (i := 7) nd' rfl (.inl rfl)) (pgs_cons (pg_name (i := 8) nd' rfl (.inl rfl)) pgs_nil))))
      (pss_cons (ps_set (i := 9) nd' rfl (.inl rfl) (pe_ifExp (pt_cmpR op_isN (pv 8) pe_non (nomark _)) pe_int (pv 8)))
      (pss_one (ps_for PassesOwn.never rfl (pi_list (pv 6)) (pg_name (i := 10) nd' rfl (.inl rfl))
        (pss_cons (ps_set (i := 11) nd' rfl (.inl rfl) (C8.pe_c Cfd hr hk rfl (pa_cons (pv 2) (pa_cons (pe_callTy call_list_of rfl G.list PyProof.Rows.boot_list (pa_cons (pv 3) pa_nil)) (pa_cons (pv 6) (pa_cons (pv 10) (pa_cons (pv 7) (pa_cons (pv 8) pa_nil))))))))
        (pss_cons (ps_set (i := 12) nd' rfl (.inl rfl) (pe_ck Cmd hr hk rfl (pa_cons (pv 2) (pa_cons (pe_callTy call_list_of rfl G.list PyProof.Rows.boot_list (pa_cons (pv 3) pa_nil)) (pa_cons (pv 6) (pa_cons (pv 10) pa_nil)))) (pk_cons (pv 7) (pk_cons (pv 8) pk_nil))))
        (pss_cons (ps_set (i := 13) nd' rfl (.inl rfl) (C8.pe_c Cle hr hk rfl (pa_cons (pv 2) (pa_cons (pv 3) (pa_cons (pv 6) (pa_cons (pv 10) (pa_cons (pv 7) (pa_cons (pv 9) pa_nil))))))))
        (pss_cons (ps_if (PW.pt (pw_or (pt_not (pt_val (C8.pe_c Csa hr hk rfl (pa_cons (pv 11) (pa_cons (pv 13) pa_nil))))) (pw_or1 (pt_not (pt_val (C8.pe_c Cnu hr hk rfl (pa_cons (pv 12) pa_nil))))))) pss_never pss_nil)
        (pss_cons (ps_if (pt_not (pt_chain op_le op_le (pv 11) (C8.pe_c Cco hr hk rfl (pa_cons (pv 6) (pa_cons (pv 4) (pa_cons (pv 10) (pa_cons (pv 7) (pa_cons (pv 8) pa_nil)))))) (pv 12))) pss_never pss_nil)
        (pss_cons (ps_if (pt_val (C8.pe_c Cmo hr hk rfl (pa_cons (pv 2) (pa_cons (pv 3) (pa_cons (pv 6) (pa_cons (pv 10) (pa_cons (pv 7) (pa_cons (pv 9) (pa_cons (pe_op op_add (pv 12) pe_int) pa_nil))))))))) pss_never pss_nil)
        (pss_one (ps_for PassesOwn.never rfl (pi_range1 rfl G.range (pa_cons pe_int pa_nil)) (pg_name (i := 14) nd' rfl (.inl rfl))
          (pss_cons (ps_set (i := 15) nd' rfl (.inl rfl) (C8.pe_c Cfw hr hk rfl (pa_cons (pv 2) (pa_cons (pe_callTy call_list_of rfl G.list PyProof.Rows.boot_list (pa_cons (pv 3) pa_nil)) (pa_cons (pv 6) (pa_cons (pv 10) (pa_cons (pv 7) (pa_cons (pv 8) pa_nil))))))))
          (pss_cons (ps_set (i := 16) nd' rfl (.inl rfl) (pe_ck Cmw hr hk rfl (pa_cons (pv 2) (pa_cons (pe_callTy call_list_of rfl G.list PyProof.Rows.boot_list (pa_cons (pv 3) pa_nil)) (pa_cons (pv 6) (pa_cons (pv 10) (pa_cons (pv 7) pa_nil))))) (pk_cons (pv 8) pk_nil)))
          (pss_cons (ps_if (PW.pt (pw_or (pt_not (pt_val (C8.pe_c Cgw hr hk rfl (pa_cons (pv 15) (pa_cons (pv 2) (pa_cons (pv 3) pa_nil)))))) (pw_or1 (pt_not (pt_val (C8.pe_c Cgw hr hk rfl (pa_cons (pv 16) (pa_cons (pv 2) (pa_cons (pv 3) pa_nil))))))))) pss_never pss_nil)
          (pss_cons (ps_if (pt_cmpR op_ne (C8.pe_c Cco hr hk rfl (pa_cons (pv 6) (pa_cons (pv 15) (pa_cons (pv 10) (pa_cons (pv 7) (pa_cons (pv 8) pa_nil)))))) (pv 11) (nomark _)) pss_never pss_nil)
          (pss_cons (ps_if (pt_cmpR op_ne (C8.pe_c Cco hr hk rfl (pa_cons (pv 6) (pa_cons (pv 16) (pa_cons (pv 10) (pa_cons (pv 7) (pa_cons (pv 8) pa_nil)))))) (pv 12) (nomark _)) pss_never pss_nil)
          (pss_cons (ps_expr (pe_bm PySem.F.plainAttrs_list PySem.F.slot_list_append PySem.F.type_list_append mt_append (pv 15) (pa_cons pe_int pa_nil)))
          (pss_one (ps_expr (pe_bm0 PySem.F.plainAttrs_list PySem.F.slot_list_clear PySem.F.type_list_clear mt_clear (pv 16)))))))))))))))))))))))))
    (pss_one (ps_ret pe_bl))), ?_⟩
  obtain ⟨ms, hms, hml⟩ := cut_ints (ns := ns) none (some 63)
  have hsl := el_sl (K := K) (σ := L2.start n_law [.ref a]) (H := H) (te := tVar 0) (tl := tNoPart) (th := tPart (tC (.int 63))) (a := a) (lo := none) (hi := some 63) (ev_var rfl) eo_none (eo_some ev_c) hn
  rw [hms] at hsl
  refine q_asgL hsl fun sp H1 fsp e1 h1 => ?_
  refine q_forR1 (n := 3) (ea_cons ev_c ea_nil) (by omega) (fun i σ' H' => ∃ (x1 x2 x3 x4 x5 x6 x7 x8 x9 x10 x11 x12 x13 x14 x15 x16 : Option L2.V), σ' = [some (.ref sp), x1, x2, x3, x4, x5, x6, x7, x8, x9, x10, x11, x12, x13, x14, x15, x16] ∧ Kp H1 H' ∧ LamX.Tabs T H') ?_ ?_ ?_
  · intro H2 e2
    exact ⟨_, _, _, _, _, _, _, _, _, _, _, _, _, _, _, _, rfl, Kp.of e2, tabs_ex hT (e1.trans e2)⟩
  · rintro i σ' H2 hi ⟨x1, x2, x3, x4, x5, x6, x7, x8, x9, x10, x11, x12, x13, x14, x15, x16, rfl, k2, t2⟩
    have hn2 : IsInts K H2 sp ms := sq_of (k2 _ _ h1 (fun ps z => by cases z))
    have hml2 : ms.length ≤ 63 := by omega
    refine call_go (vs := [.ref sp, .int (20 * (i : Int)), .int 11]) (ea_cons (ev_var rfl) (ea_cons (ev_op ev_c (ev_var rfl) (rv_I (.inl ⟨by decide, by decide⟩))) (ea_cons ev_c ea_nil))) fun H3 e3 => ⟨sp, ms, 20 * (i : Int), rfl, ex_l e3 hn2, hml2, by omega, by omega, fun m ts d x p ta da H4 e4 dr ⟨us, hta, hus⟩ hda hp => ?_⟩
    refine ⟨p, _, rfl, st_of hp, rfl, _, _, rfl, _, _, rfl, _, _, rfl, _, _, rfl, rfl, ?_⟩
    have e34 := e3.trans e4
    have dm0 := dr.m0
    have dm1 := dr.m1
    have dlen := dr.way.len
    refine call_go (vs := [.ref sp, .int (20 * (i : Int) + 14), .int (m : Int)]) (ea_cons (ev_var rfl) (ea_cons (ev_op (ev_op ev_c (ev_var rfl) (rv_I (.inl ⟨by decide, by decide⟩))) ev_c rv_add) (ea_cons (ev_var rfl) ea_nil))) fun H5 e5 => ⟨sp, ms, 20 * (i : Int) + 14, m, rfl, ex_l (e34.trans e5) hn2, hml2, by omega, by omega, dm0, dm1, fun row ra H6 e6 okr hra => ?_⟩
    refine call_go (vs := [.ref sp, .int (20 * (i : Int) + 15), .ref da]) (ea_cons (ev_var rfl) (ea_cons (ev_op (ev_op ev_c (ev_var rfl) (rv_I (.inl ⟨by decide, by decide⟩))) ev_c rv_add) (ea_cons (ev_var rfl) ea_nil))) fun H7 e7 => ⟨sp, ms, 20 * (i : Int) + 15, da, d, rfl, ex_l (((e34.trans e5).trans e6).trans e7) hn2, hml2, by omega, by omega, sq_of (((e5.trans e6).trans e7) _ _ hda), by omega, by omega, fun b e p2 H8 e8 R hp2 => ⟨p2, _, rfl, st_of hp2, rfl, _, _, rfl, _, _, rfl, rfl, ?_⟩⟩
    dsimp only
    refine q_asg (v := .int (untilOf e)) ?_ fun H9 e9 => ?_
    · cases e with
      | none => exact ev_if (b := true) (et_test (ev_op (ev_var rfl) ev_c (fun H2 _ _ q' => ⟨rfl, q' H2 (Ex.refl H2)⟩))) (fun _ => ev_c) (fun h => by cases h)
      | some i => exact ev_if (b := false) (et_test (ev_op (ev_var rfl) ev_c (fun H2 _ _ q' => ⟨rfl, q' H2 (Ex.refl H2)⟩))) (fun h => by cases h) (fun _ => ev_var rfl)
    have e79 := (e7.trans e8).trans e9
    have e59 := (e5.trans e6).trans e79
    have S9 : Stage K H9 m ts d row b e ta da ra us := ⟨dr, e59 _ _ hta, hus.kp (Kp.of e59), e59 _ _ hda, e79 _ _ hra, okr, R⟩
    have k9 : Kp H1 H9 := k2.trans (Kp.of (e34.trans e59))
    have t9 : LamX.Tabs T H9 := tabs_ex t2 (e34.trans e59)
    refine s_forLn (K := K) (a := ra) (xs := natV row) (ev_var rfl) (sq_of S9.hra) (fun n σ' H' => ∃ (x10 x11 x12 x13 x14 x15 x16 : Option L2.V), σ' = [some (.ref sp), some (.int (i : Int)), some (.int (m : Int)), some (.ref ta), some (.ref da), some x, some (.ref ra), some (.int b), some (optV e), some (.int (untilOf e)), x10, x11, x12, x13, x14, x15, x16] ∧
      Kp H9 H' ∧ LamX.Tabs T H') ?_ ?_ ?_ ?_
    · intro H10 e10
      exact ⟨_, _, _, _, _, _, _, rfl, Kp.of e10, tabs_ex t9 e10⟩
    · rintro n σ' H' _ ⟨_, _, _, _, _, _, _, _, k', _⟩
      exact sq_of (S9.kp k').hra
    · rintro n y σ' H' hy ⟨x10, x11, x12, x13, x14, x15, x16, rfl, k', t'⟩
      obtain ⟨own, hown, rfl⟩ := natV_get hy
      obtain ⟨es, rest, rfl⟩ := split_at hown
      have S := S9.kp k'
      -- fewest_days
      refine ⟨_, rfl, _, rfl, ta, us, rfl, .inl (sq_of S.hta), fun tb htb => ⟨_, rfl, _, rfl, _, rfl, _, rfl, tb, ra, m, ts, es, rest, own, b, e, rfl, S.asksL htb, tabs_ex t' (Ex.new htb), fun few G2 g2 u2 hfew => ?_⟩⟩
      have kk2 : Kp H' G2 := (Kp.of (Ex.new htb)).trans g2
      have S2 := S.kp kk2
      -- most_days
      refine ⟨_, rfl, _, rfl, ta, us, rfl, .inl (sq_of S2.hta), fun tc htc => ⟨_, rfl, _, rfl, _, rfl, _, rfl, rfl, rfl, tc, ra, m, ts, es, rest, own, b, e, rfl, S2.asksL htc, fun most G3 g3 z0 z1 hmost => ?_⟩⟩
      have g23 : Ex G2 G3 := (Ex.new htc).trans g3
      have S3 := S2.kp (Kp.of g23)
      have u3 := tabs_ex u2 g23
      -- _law_least
      refine ⟨_, rfl, _, rfl, _, rfl, _, rfl, _, rfl, _, rfl, ta, ra, m, ts, es, rest, own, b, e, rfl, S3.asks, fun least G4 g4 hleast => ?_⟩
      obtain rfl : few = least := hfew.uniq hleast
      have A3 := S3.asks
      have rd := A3.okr.nd
      have l4 := A3.okr.l1
      have n1 : own ∉ es := A3.hn
      have n2 : own ∉ rest := (List.nodup_cons.mp (List.nodup_append.mp rd).2.1).1
      have w1 : few ≤ cnt (dl d) es own b (untilOf e) := hfew.1 d dr.way
      have w2 : cnt (dl d) es own b (untilOf e) ≤ most := hmost.1 d dr.way
      have cntE : ∀ {σ : L2.St} {Ha : Hp} {t0 t1 t2 t3 t4 : TE} (d' : List Int) (a' : Addr), Stage K Ha m ts d (es ++ own :: rest) b e ta da ra us → Ha a' = some (.lst (d'.map L2.V.int)) → Way m ts d' → Ev t0 σ Ha (.ref ra) → Ev t1 σ Ha (.ref a') → Ev t2 σ Ha (.int (own : Int)) → Ev t3 σ Ha (.int b) → Ev t4 σ Ha (optV e) →
          Ev (tCall (sp_law_count K) [] C8.E0 (tCons t0 (tCons t1 (tCons t2 (tCons t3 (tCons t4 tNil)))))) σ Ha (.int (cnt (dl d') es own b (untilOf e))) := fun d' a' Sa ha' wd h0 h1 h2 h3 h4 =>
        ev_call (ea_cons h0 (ea_cons h1 (ea_cons h2 (ea_cons h3 (ea_cons h4 ea_nil))))) fun H6 e6 Q' q' E' => ⟨ra, a', es, rest, own, d', b, e, rfl, ex_l e6 (sq_of Sa.hra), ex_l e6 (sq_of ha'), fun l hl => by rw [wd.len]; exact okr.lt l hl, by omega, n1, n2, fun H7 e7 => q' H7 e7⟩
      have S4 := S3.kp (Kp.of g4)
      have u4 := tabs_ex u3 g4
      -- same, num
      refine q_when (b := false) (et_is (et_or (a := false) (b := false) (et_is (et_not (a := true) (et_B (ev_call (ea_cons (ev_var rfl) (ea_cons (ev_var rfl) ea_nil)) fun H6 e6 Q' q' E' => ⟨few, few, rfl, by rw [decide_eq_true rfl]; exact q' H6 (Ex.refl H6)⟩))) rfl)
        (fun _ => et_is (et_not (a := true) (et_B (ev_call (ea_cons (ev_var rfl) ea_nil) fun H6 e6 Q' q' E' => ⟨most, rfl, q' H6 (Ex.refl H6)⟩))) rfl)) rfl) (fun h => by cases h) (fun _ G5 g5 => ?_)
      have S5 := S4.kp (Kp.of g5)
      -- few <= count <= most
      refine q_when (b := false) (et_is (et_not (a := true) (et_test (ev_chain (ev_var rfl) (cntE d da S5 S5.hda dr.way (ev_var rfl) (ev_var rfl) (ev_var rfl) (ev_var rfl) (ev_var rfl)) (ev_var rfl) w1 w2))) rfl) (fun h => by cases h) (fun _ G6 g6 => ?_)
      have S6 := S5.kp (Kp.of g6)
      -- more
      refine q_when (b := false) (et_B (ev_call (vs := [.int (m : Int), .ref ta, .ref ra, .int (own : Int), .int b, .int (untilOf e), .int (most + 1)]) (ea_cons (ev_var rfl) (ea_cons (ev_var rfl) (ea_cons (ev_var rfl) (ea_cons (ev_var rfl) (ea_cons (ev_var rfl) (ea_cons (ev_var rfl) (ea_cons (ev_op (ev_var rfl) ev_c rv_add) ea_nil))))))) fun H6 e6 Q' q' E' => by
        have Sx := S6.kp (Kp.of e6)
        exact ⟨ta, ra, m, ts, es, rest, own, b, e, us, most, rfl, Sx.asks, Sx.hta, Sx.hus, z0, hmost, fun H7 e7 => q' H7 e7⟩)) (fun h => by cases h) (fun _ G7 g7 => ?_)
      have g47 := (g5.trans g6).trans g7
      have S7 := S4.kp (Kp.of g47)
      have u7 := tabs_ex u4 g47
      have k7 : Kp H9 G7 := (k'.trans kk2).trans (Kp.of ((g23.trans g4).trans g47))
      -- twice
      refine s_forR1 (n := 2) (ea_cons ev_c ea_nil) (by omega) (fun r σ' H' => ∃ (x14 x15 x16 : Option L2.V), σ' = [some (.ref sp), some (.int (i : Int)), some (.int (m : Int)), some (.ref ta), some (.ref da), some x, some (.ref ra), some (.int b), some (optV e), some (.int (untilOf e)), some (.int (own : Int)), some (.int few), some (.int most), some (.int few), x14, x15, x16] ∧
        Kp G7 H' ∧ LamX.Tabs T H') ?_ ?_ ?_
      · intro H10 e10
        exact ⟨_, _, _, rfl, Kp.of e10, tabs_ex u7 e10⟩
      · rintro r σ' J hr2 ⟨x14, x15, x16, rfl, kJ, tJ⟩
        have SJ := S7.kp kJ
        -- fewest_way
        refine ⟨_, rfl, _, rfl, ta, us, rfl, .inl (sq_of SJ.hta), fun tb htb => ⟨_, rfl, _, rfl, _, rfl, _, rfl, tb, ra, m, ts, es, rest, own, b, e, rfl, SJ.asksL htb, tabs_ex tJ (Ex.new htb), fun dlo pl J2 j2 v2 frl hpl wlo flo => ?_⟩⟩
        have ktb : Kp G7 (upd J tb (.lst us)) := kJ.trans (Kp.of (Ex.new htb))
        have frl7 : Fresh G7 pl := Fresh.back ktb frl
        have kJ2 : Kp G7 J2 := ktb.trans j2
        have SJ2 := S7.kp kJ2
        -- most_way
        refine ⟨_, rfl, _, rfl, ta, us, rfl, .inl (sq_of SJ2.hta), fun tc htc => ⟨_, rfl, _, rfl, _, rfl, _, rfl, rfl, rfl, tc, ra, m, ts, es, rest, own, b, e, rfl, SJ2.asksL htc, fun dhi ph J3 j3 fph hph whi mhi => ?_⟩⟩
        have ktc : Kp G7 (upd J2 tc (.lst us)) := kJ2.trans (Kp.of (Ex.new htc))
        have frh7 : Fresh G7 ph := Kp.fresh ktc fph
        have nlh : ph ≠ pl := fun z => by
          rw [z, (Ex.new htc : Ex J2 _) _ _ hpl] at fph
          cases fph
        have j23 : Ex J2 J3 := (Ex.new htc).trans j3
        have kJ3 : Kp G7 J3 := kJ2.trans (Kp.of j23)
        have SJ3 := S7.kp kJ3
        have hpl3 := j23 _ _ hpl
        have cl : cnt (dl dlo) es own b (untilOf e) = few := flo.uniq hfew
        have ch : cnt (dl dhi) es own b (untilOf e) = most := mhi.uniq hmost
        have gwE : ∀ {σ : L2.St} {Ha : Hp} {t0 t1 t2 : TE} (d' : List Int) (a' : Addr), Stage K Ha m ts d (es ++ own :: rest) b e ta da ra us → Ha a' = some (.lst (d'.map L2.V.int)) → Way m ts d' → Ev t0 σ Ha (.ref a') → Ev t1 σ Ha (.int (m : Int)) → Ev t2 σ Ha (.ref ta) →
            Ev (tCall (sp_law_good_way K) [] C8.E0 (tCons t0 (tCons t1 (tCons t2 tNil)))) σ Ha (.bl true) := fun d' a' Sa ha' wd h0 h1 h2 =>
          ev_call (ea_cons h0 (ea_cons h1 (ea_cons h2 ea_nil))) fun H6 e6 Q' q' E' => ⟨a', ta, m, ts, d', rfl, e6 _ _ ha', dm1, wd, ⟨us, sq_of (e6 _ _ Sa.hta), Sa.hus.kp (Kp.of e6)⟩, fun t ht => (dr.ok t ht).g, by have := dr.tl; omega, fun H7 e7 => q' H7 e7⟩
        -- the checks
        refine q_when (b := false) (et_is (et_or (a := false) (b := false) (et_is (et_not (a := true) (et_B (gwE dlo pl SJ3 hpl3 wlo (ev_var rfl) (ev_var rfl) (ev_var rfl)))) rfl) (fun _ => et_is (et_not (a := true) (et_B (gwE dhi ph SJ3 hph whi (ev_var rfl) (ev_var rfl) (ev_var rfl)))) rfl)) rfl) (fun h => by cases h) (fun _ J4 j4 => ?_)
        have SJ4 := SJ3.kp (Kp.of j4)
        refine q_when (b := false) (et_is (et_test (ev_op (cntE dlo pl SJ4 (j4 _ _ hpl3) wlo (ev_var rfl) (ev_var rfl) (ev_var rfl) (ev_var rfl) (ev_var rfl)) (ev_var rfl) (rv_ne rfl))) (by rw [cl, decide_eq_true rfl]; rfl)) (fun h => by cases h) (fun _ J5 j5 => ?_)
        have j35 := j4.trans j5
        have SJ5 := SJ3.kp (Kp.of j35)
        refine q_when (b := false) (et_is (et_test (ev_op (cntE dhi ph SJ5 (j35 _ _ hph) whi (ev_var rfl) (ev_var rfl) (ev_var rfl) (ev_var rfl) (ev_var rfl)) (ev_var rfl) (rv_ne rfl))) (by rw [ch, decide_eq_true rfl]; rfl)) (fun h => by cases h) (fun _ J6 j6 => ?_)
        have j36 := j35.trans j6
        -- low.append(0), high.clear()
        refine q_app (l := pl) (xs := dlo.map L2.V.int) (v := .int 0) (j36 _ _ hpl3) (ev_var rfl) ev_c (by rw [List.length_map, wlo.len]; omega) fun J7 j7 => ?_
        have j37 := j36.trans j7
        have t7 : LamX.Tabs T J7 := tabs_ex v2 (j23.trans j37)
        have hp7 := j37 _ _ hpl3
        have hh7 : upd J7 pl (.lst (dlo.map L2.V.int ++ [.int 0])) ph = some (.lst (dhi.map L2.V.int)) := by
          rw [upd_ne nlh]
          exact j37 _ _ hph
        exact ⟨_, rfl, .inl ⟨rfl, _, sq_of hh7⟩, ph, _, rfl, rfl, hh7, _, _, _, rfl, Kp.mut (Kp.mut (kJ3.trans (Kp.of j37)) frl7) frh7, tabs_lst (tabs_lst t7 hp7) hh7⟩
      · rintro σ' J ⟨x14, x15, x16, rfl, kJ, tJ⟩
        exact ⟨_, _, _, _, _, _, _, rfl, k7.trans kJ, tJ⟩
    · rintro σ' H' ⟨x10, x11, x12, x13, x14, x15, x16, rfl, k', t'⟩
      exact ⟨_, _, _, _, _, _, _, _, _, _, _, _, _, _, _, _, rfl, k9.trans k', t'⟩
  · rintro σ' H' _
    exact s_ret ev_c fun H3 _ => q H3
end
end Lh
namespace Lh
open PySem PySem.Spec PyProof.Rows L2
/-! ### the head: facts by names, the run -/
def d_is_day : He.DefD := ⟨("is_day", none), "is_day", "is_day", defArgs s_is_day, defBody s_is_day, defScope s_is_day, [], []⟩
def d_need_day : He.DefD := ⟨("need_day", none), "need_day", "need_day", defArgs s_need_day, defBody s_need_day, defScope s_need_day, [], []⟩
def d_need_run : He.DefD := ⟨("need_run", none), "need_run", "need_run", defArgs s_need_run, defBody s_need_run, defScope s_need_run, [], []⟩
def d_is_tie : He.DefD := ⟨("is_tie", none), "is_tie", "is_tie", defArgs s_is_tie, defBody s_is_tie, defScope s_is_tie, [], []⟩
def d_need_many : He.DefD := ⟨("need_many", none), "need_many", "need_many", defArgs s_need_many, defBody s_need_many, defScope s_need_many, [], []⟩
def d_need_tie : He.DefD := ⟨("need_tie", none), "need_tie", "need_tie", defArgs s_need_tie, defBody s_need_tie, defScope s_need_tie, [], []⟩
def d_need_ties : He.DefD := ⟨("need_ties", none), "need_ties", "need_ties", defArgs s_need_ties, defBody s_need_ties, defScope s_need_ties, [], []⟩
def d_need_row : He.DefD := ⟨("need_row", none), "need_row", "need_row", defArgs s_need_row, defBody s_need_row, defScope s_need_row, [], []⟩
def d_need_in : He.DefD := ⟨("need_in", none), "need_in", "need_in", defArgs s_need_in, defBody s_need_in, defScope s_need_in, [], []⟩
def d_first_table : He.DefD := ⟨("first_table", none), "first_table", "first_table", defArgs s_first_table, defBody s_first_table, defScope s_first_table, [], []⟩
def d_tightened : He.DefD := ⟨("tightened", none), "tightened", "tightened", defArgs s_tightened, defBody s_tightened, defScope s_tightened, [], []⟩
def d_table_of : He.DefD := ⟨("table_of", none), "table_of", "table_of", defArgs s_table_of, defBody s_table_of, defScope s_table_of, [], []⟩
def d_need_table : He.DefD := ⟨("need_table", none), "need_table", "need_table", defArgs s_need_table, defBody s_need_table, defScope s_need_table, [], []⟩
def d_early_of : He.DefD := ⟨("early_of", none), "early_of", "early_of", defArgs s_early_of, defBody s_early_of, defScope s_early_of, [], []⟩
def d_late_of : He.DefD := ⟨("late_of", none), "late_of", "late_of", defArgs s_late_of, defBody s_late_of, defScope s_late_of, [], []⟩
def d_fewest_days : He.DefD := ⟨("fewest_days", none), "fewest_days", "fewest_days", defArgs s_fewest_days, defBody s_fewest_days, defScope s_fewest_days, [.int 0, .non], []⟩
def d_most_days : He.DefD := ⟨("most_days", none), "most_days", "most_days", defArgs s_most_days, defBody s_most_days, defScope s_most_days, [.int 0, .non], []⟩
def d_fewest_way : He.DefD := ⟨("fewest_way", none), "fewest_way", "fewest_way", defArgs s_fewest_way, defBody s_fewest_way, defScope s_fewest_way, [.int 0, .non], []⟩
def d_most_way : He.DefD := ⟨("most_way", none), "most_way", "most_way", defArgs s_most_way, defBody s_most_way, defScope s_most_way, [.int 0, .non], []⟩
def d_law_kept : He.DefD := ⟨("_law_kept", none), "_law_kept", "_law_kept", defArgs s_law_kept, defBody s_law_kept, defScope s_law_kept, [], []⟩
def d_law_early : He.DefD := ⟨("_law_early", none), "_law_early", "_law_early", defArgs s_law_early, defBody s_law_early, defScope s_law_early, [], []⟩
def d_law_gap : He.DefD := ⟨("_law_gap", none), "_law_gap", "_law_gap", defArgs s_law_gap, defBody s_law_gap, defScope s_law_gap, [], []⟩
def d_law_mix : He.DefD := ⟨("_law_mix", none), "_law_mix", "_law_mix", defArgs s_law_mix, defBody s_law_mix, defScope s_law_mix, [], []⟩
def d_law_raw : He.DefD := ⟨("_law_raw", none), "_law_raw", "_law_raw", defArgs s_law_raw, defBody s_law_raw, defScope s_law_raw, [], []⟩
def d_law_digits : He.DefD := ⟨("_law_digits", none), "_law_digits", "_law_digits", defArgs s_law_digits, defBody s_law_digits, defScope s_law_digits, [], []⟩
def d_law_great : He.DefD := ⟨("_law_great", none), "_law_great", "_law_great", defArgs s_law_great, defBody s_law_great, defScope s_law_great, [], []⟩
def d_law_row : He.DefD := ⟨("_law_row", none), "_law_row", "_law_row", defArgs s_law_row, defBody s_law_row, defScope s_law_row, [], []⟩
def d_law_run : He.DefD := ⟨("_law_run", none), "_law_run", "_law_run", defArgs s_law_run, defBody s_law_run, defScope s_law_run, [], []⟩
def d_law_same : He.DefD := ⟨("_law_same", none), "_law_same", "_law_same", defArgs s_law_same, defBody s_law_same, defScope s_law_same, [], []⟩
def d_law_num : He.DefD := ⟨("_law_num", none), "_law_num", "_law_num", defArgs s_law_num, defBody s_law_num, defScope s_law_num, [], []⟩
def d_law_turns : He.DefD := ⟨("_law_turns", none), "_law_turns", "_law_turns", defArgs s_law_turns, defBody s_law_turns, defScope s_law_turns, [], []⟩
def d_law_count : He.DefD := ⟨("_law_count", none), "_law_count", "_law_count", defArgs s_law_count, defBody s_law_count, defScope s_law_count, [], []⟩
def d_law_good_way : He.DefD := ⟨("_law_good_way", none), "_law_good_way", "_law_good_way", defArgs s_law_good_way, defBody s_law_good_way, defScope s_law_good_way, [], []⟩
def d_law_more : He.DefD := ⟨("_law_more", none), "_law_more", "_law_more", defArgs s_law_more, defBody s_law_more, defScope s_law_more, [], []⟩
def d_law_least : He.DefD := ⟨("_law_least", none), "_law_least", "_law_least", defArgs s_law_least, defBody s_law_least, defScope s_law_least, [], []⟩
def d_law : He.DefD := ⟨("law", none), "law", "law", defArgs s_law, defBody s_law, defScope s_law, [], []⟩
def d_init : He.DefD := ⟨("Asked", some "__init__"), "__init__", "Asked.__init__", defArgs s_init, defBody s_init, defScope s_init, [], []⟩
def d_with_days : He.DefD := ⟨("Asked", some "with_days"), "with_days", "Asked.with_days", defArgs s_with_days, defBody s_with_days, defScope s_with_days, [], []⟩
def d_endings : He.DefD := ⟨("Asked", some "endings"), "endings", "Asked.endings", defArgs s_endings, defBody s_endings, defScope s_endings, [], []⟩
def d_shortest : He.DefD := ⟨("Asked", some "shortest"), "shortest", "Asked.shortest", defArgs s_shortest, defBody s_shortest, defScope s_shortest, [], []⟩
def d_longest : He.DefD := ⟨("Asked", some "longest"), "longest", "Asked.longest", defArgs s_longest, defBody s_longest, defScope s_longest, [], []⟩
def fnA : List He.DefD := [d_is_day, d_need_day, d_need_run, d_is_tie, d_need_many, d_need_tie, d_need_ties, d_need_row, d_need_in, d_first_table, d_tightened, d_table_of, d_need_table, d_early_of, d_late_of, d_fewest_days, d_most_days, d_fewest_way, d_most_way, d_law_kept, d_law_early, d_law_gap]
def fnB : List He.DefD := [d_law_mix, d_law_raw, d_law_digits, d_law_great, d_law_row, d_law_run, d_law_same, d_law_num, d_law_turns, d_law_count, d_law_good_way, d_law_more, d_law_least, d_law, d_init, d_with_days, d_endings, d_shortest, d_longest]
def fn : List He.DefD := fnA ++ fnB
def faA : List He.Fa := [.glo "is_day", .glo "need_day", .glo "need_run", .glo "is_tie", .glo "need_many", .glo "need_tie", .glo "need_ties", .glo "need_row", .glo "need_in", .glo "first_table", .glo "tightened", .glo "table_of", .glo "need_table", .glo "early_of", .glo "late_of", .glo "fewest_days", .glo "most_days", .glo "fewest_way", .glo "most_way", .glo "_law_kept", .glo "_law_early", .glo "_law_gap"]
def faB : List He.Fa := [.glo "_law_mix", .glo "_law_raw", .glo "_law_digits", .glo "_law_great", .glo "_law_row", .glo "_law_run", .glo "_law_same", .glo "_law_num", .glo "_law_turns", .glo "_law_count", .glo "_law_good_way", .glo "_law_more", .glo "_law_least", .glo "law", .glo "Asked"]
def faC : List He.Fa := [.free "len", .free "range", .free "min", .free "max", .free "any", .free "all", .free "sum", .free "set", .free "list", .free "tuple", .free "bool", .free "int", .free "str", .free "isinstance", .int "LAST_DAY" 9999, .int "END_OF_DAYS" 10000, .int "BEGINNING" (-1), .int "MOST_LIVES" 10, .int "MOST_TIES" 80, .int "MOST_IN_ROW" 4]
def faD : List He.Fa := [.cls "Asked", .noat "Asked" "table", .noat "Asked" "start", .noat "Asked" "stop", .noat "Asked" "elders", .noat "Asked" "crowd", .noat "Asked" "bonds", .noat "Asked" "own", .meth "Asked" "with_days", .meth "Asked" "endings", .meth "Asked" "shortest", .meth "Asked" "longest", .mkr "Asked"]
def fa : List He.Fa := faA ++ (faB ++ (faC ++ faD))
def looseA : List PySem.Str := ["HoldError", "Missing", "BadDay", "BadCount", "BadTie", "CantBe", "BadRow", "NoLife", "LAST_DAY", "END_OF_DAYS", "is_day", "need_day", "need_run", "BEGINNING", "MOST_LIVES", "MOST_TIES", "is_tie", "need_many", "need_tie", "need_ties", "MOST_IN_ROW", "need_row", "need_in", "first_table", "tightened", "table_of", "need_table", "early_of", "late_of", "Asked"]
def looseB : List PySem.Str := ["fewest_days", "most_days", "fewest_way", "most_way", "_law_kept", "_law_early", "_law_gap", "_law_mix", "_law_raw", "_law_digits", "_law_great", "_law_maybe", "_law_row", "_law_run", "_law_same", "_law_num", "_law_holder", "_law_turns", "_law_dead", "_law_count", "_law_good_way", "_law_more", "_law_least"]
def loose : List PySem.Str := looseA ++ looseB
abbrev R : PySem.W.OpenRow := PySem.W.OpenLaw.row PySem.Challenge.rw_lifehold_k30_whole_ways_of_fewest_and_mo
def tf : List He.Defn := [("Asked", some "shortest")]
abbrev hkL : PySem.W.Hook := He.hookX 5 fa fn [] tf (fun _ => true)
def ob (s : PySem.W.SharedT) : He.AlX := He.obsX 5 fa fn [] tf (fun _ => true) (HandSHeadRun.getT s)
theorem ob_eq (s : PySem.W.SharedT) : ob s = hkL.obs s.abs := He.obsX_eq (HandSHeadRun.getT_eq s)
theorem run (w : World) : HandSHeadRun.RunEq R (PySem.W.view R.prog [60]) hkL ob 30000 loose w := by
  intro os
  kernel_rfl
end Lh
namespace Lh
open PySem PySem.Spec PyProof.Rows L2
/-! ### defs out of the head's facts -/
section
variable {h : Heap} {K : PySem.W.Frag} {mg : Str → Option Value}
theorem gs_of (X : K.In h) (G : h.Ns mainGlobals mg) (D : He.SaysD fa fn K) : Gs mg :=
  ⟨He.free_ok X G (D.fact 37 (f := .free "len") rfl),
    He.free_ok X G (D.fact 38 (f := .free "range") rfl),
    He.free_ok X G (D.fact 39 (f := .free "min") rfl),
    He.free_ok X G (D.fact 40 (f := .free "max") rfl),
    He.free_ok X G (D.fact 41 (f := .free "any") rfl),
    He.free_ok X G (D.fact 42 (f := .free "all") rfl),
    He.free_ok X G (D.fact 43 (f := .free "sum") rfl),
    He.free_ok X G (D.fact 44 (f := .free "set") rfl),
    He.free_ok X G (D.fact 45 (f := .free "list") rfl),
    He.free_ok X G (D.fact 46 (f := .free "tuple") rfl),
    He.free_ok X G (D.fact 47 (f := .free "bool") rfl),
    He.free_ok X G (D.fact 48 (f := .free "int") rfl),
    He.free_ok X G (D.fact 49 (f := .free "str") rfl),
    He.free_ok X G (D.fact 50 (f := .free "isinstance") rfl),
    He.int_ok X G (D.fact 51 (f := .int "LAST_DAY" 9999) rfl),
    He.int_ok X G (D.fact 52 (f := .int "END_OF_DAYS" 10000) rfl),
    He.int_ok X G (D.fact 53 (f := .int "BEGINNING" (-1)) rfl),
    He.int_ok X G (D.fact 54 (f := .int "MOST_LIVES" 10) rfl),
    He.int_ok X G (D.fact 55 (f := .int "MOST_TIES" 80) rfl),
    He.int_ok X G (D.fact 56 (f := .int "MOST_IN_ROW" 4) rfl)⟩
theorem ak_of (D : He.SaysD fa fn K) : Ak K (He.ga K "Asked") :=
  ⟨He.cls_ok (D.fact 57 (f := .cls "Asked") rfl), He.noat_ok (D.fact 58 (f := .noat "Asked" "table") rfl), He.noat_ok (D.fact 59 (f := .noat "Asked" "start") rfl), He.noat_ok (D.fact 60 (f := .noat "Asked" "stop") rfl), He.noat_ok (D.fact 61 (f := .noat "Asked" "elders") rfl), He.noat_ok (D.fact 62 (f := .noat "Asked" "crowd") rfl), He.noat_ok (D.fact 63 (f := .noat "Asked" "bonds") rfl), He.noat_ok (D.fact 64 (f := .noat "Asked" "own") rfl)⟩
theorem has_is_day (X : K.In h) (G : h.Ns mainGlobals mg) (D : He.SaysD fa fn K) : Has K mg "is_day" s_is_day p_is_day := by
  obtain ⟨fd, F⟩ := D.def_ 0 (d := d_is_day) rfl
  exact ⟨[], _, fd, F, He.glo_ok X G (D.fact 0 (f := .glo "is_day") rfl), FunD.bindsN (ps := p_is_day) F fun _ _ _ _ _ _ us hl => match us, hl with | [_], _ => rfl⟩
theorem has_need_day (X : K.In h) (G : h.Ns mainGlobals mg) (D : He.SaysD fa fn K) : Has K mg "need_day" s_need_day p_need_day := by
  obtain ⟨fd, F⟩ := D.def_ 1 (d := d_need_day) rfl
  exact ⟨[], _, fd, F, He.glo_ok X G (D.fact 1 (f := .glo "need_day") rfl), FunD.bindsN (ps := p_need_day) F fun _ _ _ _ _ _ us hl => match us, hl with | [_], _ => rfl⟩
theorem has_need_run (X : K.In h) (G : h.Ns mainGlobals mg) (D : He.SaysD fa fn K) : Has K mg "need_run" s_need_run p_need_run := by
  obtain ⟨fd, F⟩ := D.def_ 2 (d := d_need_run) rfl
  exact ⟨[], _, fd, F, He.glo_ok X G (D.fact 2 (f := .glo "need_run") rfl), FunD.bindsN (ps := p_need_run) F fun _ _ _ _ _ _ us hl => match us, hl with | [_, _], _ => rfl⟩
theorem has_is_tie (X : K.In h) (G : h.Ns mainGlobals mg) (D : He.SaysD fa fn K) : Has K mg "is_tie" s_is_tie p_is_tie := by
  obtain ⟨fd, F⟩ := D.def_ 3 (d := d_is_tie) rfl
  exact ⟨[], _, fd, F, He.glo_ok X G (D.fact 3 (f := .glo "is_tie") rfl), FunD.bindsN (ps := p_is_tie) F fun _ _ _ _ _ _ us hl => match us, hl with | [_, _], _ => rfl⟩
theorem has_need_many (X : K.In h) (G : h.Ns mainGlobals mg) (D : He.SaysD fa fn K) : Has K mg "need_many" s_need_many p_need_many := by
  obtain ⟨fd, F⟩ := D.def_ 4 (d := d_need_many) rfl
  exact ⟨[], _, fd, F, He.glo_ok X G (D.fact 4 (f := .glo "need_many") rfl), FunD.bindsN (ps := p_need_many) F fun _ _ _ _ _ _ us hl => match us, hl with | [_], _ => rfl⟩
theorem has_need_tie (X : K.In h) (G : h.Ns mainGlobals mg) (D : He.SaysD fa fn K) : Has K mg "need_tie" s_need_tie p_need_tie := by
  obtain ⟨fd, F⟩ := D.def_ 5 (d := d_need_tie) rfl
  exact ⟨[], _, fd, F, He.glo_ok X G (D.fact 5 (f := .glo "need_tie") rfl), FunD.bindsN (ps := p_need_tie) F fun _ _ _ _ _ _ us hl => match us, hl with | [_, _], _ => rfl⟩
theorem has_need_ties (X : K.In h) (G : h.Ns mainGlobals mg) (D : He.SaysD fa fn K) : Has K mg "need_ties" s_need_ties p_need_ties := by
  obtain ⟨fd, F⟩ := D.def_ 6 (d := d_need_ties) rfl
  exact ⟨[], _, fd, F, He.glo_ok X G (D.fact 6 (f := .glo "need_ties") rfl), FunD.bindsN (ps := p_need_ties) F fun _ _ _ _ _ _ us hl => match us, hl with | [_, _], _ => rfl⟩
theorem has_need_row (X : K.In h) (G : h.Ns mainGlobals mg) (D : He.SaysD fa fn K) : Has K mg "need_row" s_need_row p_need_row := by
  obtain ⟨fd, F⟩ := D.def_ 7 (d := d_need_row) rfl
  exact ⟨[], _, fd, F, He.glo_ok X G (D.fact 7 (f := .glo "need_row") rfl), FunD.bindsN (ps := p_need_row) F fun _ _ _ _ _ _ us hl => match us, hl with | [_, _], _ => rfl⟩
theorem has_need_in (X : K.In h) (G : h.Ns mainGlobals mg) (D : He.SaysD fa fn K) : Has K mg "need_in" s_need_in p_need_in := by
  obtain ⟨fd, F⟩ := D.def_ 8 (d := d_need_in) rfl
  exact ⟨[], _, fd, F, He.glo_ok X G (D.fact 8 (f := .glo "need_in") rfl), FunD.bindsN (ps := p_need_in) F fun _ _ _ _ _ _ us hl => match us, hl with | [_, _], _ => rfl⟩
theorem has_first_table (X : K.In h) (G : h.Ns mainGlobals mg) (D : He.SaysD fa fn K) : Has K mg "first_table" s_first_table p_first_table := by
  obtain ⟨fd, F⟩ := D.def_ 9 (d := d_first_table) rfl
  exact ⟨[], _, fd, F, He.glo_ok X G (D.fact 9 (f := .glo "first_table") rfl), FunD.bindsN (ps := p_first_table) F fun _ _ _ _ _ _ us hl => match us, hl with | [_], _ => rfl⟩
theorem has_tightened (X : K.In h) (G : h.Ns mainGlobals mg) (D : He.SaysD fa fn K) : Has K mg "tightened" s_tightened p_tightened := by
  obtain ⟨fd, F⟩ := D.def_ 10 (d := d_tightened) rfl
  exact ⟨[], _, fd, F, He.glo_ok X G (D.fact 10 (f := .glo "tightened") rfl), FunD.bindsN (ps := p_tightened) F fun _ _ _ _ _ _ us hl => match us, hl with | [_], _ => rfl⟩
theorem has_table_of (X : K.In h) (G : h.Ns mainGlobals mg) (D : He.SaysD fa fn K) : Has K mg "table_of" s_table_of p_table_of := by
  obtain ⟨fd, F⟩ := D.def_ 11 (d := d_table_of) rfl
  exact ⟨[], _, fd, F, He.glo_ok X G (D.fact 11 (f := .glo "table_of") rfl), FunD.bindsN (ps := p_table_of) F fun _ _ _ _ _ _ us hl => match us, hl with | [_, _], _ => rfl⟩
theorem has_need_table (X : K.In h) (G : h.Ns mainGlobals mg) (D : He.SaysD fa fn K) : Has K mg "need_table" s_need_table p_need_table := by
  obtain ⟨fd, F⟩ := D.def_ 12 (d := d_need_table) rfl
  exact ⟨[], _, fd, F, He.glo_ok X G (D.fact 12 (f := .glo "need_table") rfl), FunD.bindsN (ps := p_need_table) F fun _ _ _ _ _ _ us hl => match us, hl with | [_, _], _ => rfl⟩
theorem has_early_of (X : K.In h) (G : h.Ns mainGlobals mg) (D : He.SaysD fa fn K) : Has K mg "early_of" s_early_of p_early_of := by
  obtain ⟨fd, F⟩ := D.def_ 13 (d := d_early_of) rfl
  exact ⟨[], _, fd, F, He.glo_ok X G (D.fact 13 (f := .glo "early_of") rfl), FunD.bindsN (ps := p_early_of) F fun _ _ _ _ _ _ us hl => match us, hl with | [_], _ => rfl⟩
theorem has_late_of (X : K.In h) (G : h.Ns mainGlobals mg) (D : He.SaysD fa fn K) : Has K mg "late_of" s_late_of p_late_of := by
  obtain ⟨fd, F⟩ := D.def_ 14 (d := d_late_of) rfl
  exact ⟨[], _, fd, F, He.glo_ok X G (D.fact 14 (f := .glo "late_of") rfl), FunD.bindsN (ps := p_late_of) F fun _ _ _ _ _ _ us hl => match us, hl with | [_], _ => rfl⟩
theorem has_fewest_days (X : K.In h) (G : h.Ns mainGlobals mg) (D : He.SaysD fa fn K) : Has K mg "fewest_days" s_fewest_days p_fewest_days := by
  obtain ⟨fd, F⟩ := D.def_ 15 (d := d_fewest_days) rfl
  obtain ⟨ds, v, b⟩ := FunD.binds1 (ps := p_fewest_days) (dvs := [.int 0, .non]) F 6 2 (by simp) rfl (fun _ _ _ _ _ _ _ us its h1 h2 => match us, its, h1, h2 with | [_, _, _, _, _, _], [_, _], _, _ => ⟨_, rfl, rfl⟩)
  cases v
  exact ⟨[.int 0, .non], _, fd, F, He.glo_ok X G (D.fact 15 (f := .glo "fewest_days") rfl), b⟩
theorem has_most_days (X : K.In h) (G : h.Ns mainGlobals mg) (D : He.SaysD fa fn K) : HasK K mg "most_days" s_most_days p_most_days 4 ["start", "end"] := by
  obtain ⟨fd, F⟩ := D.def_ 16 (d := d_most_days) rfl
  obtain ⟨its, b⟩ := FunD.kbindsD (ps := p_most_days) (dvs := [.int 0, .non]) F 4 ["start", "end"] (fun us _ ws => us ++ ws) (by simp) (fun r1 _ r3 => r1.append r3) (fun _ _ _ _ _ _ _ us its ws h1 h2 h3 => match us, its, ws, h1, h2, h3 with | [_, _, _, _], [_, _], [_, _], _, _, _ => ⟨_, rfl, rfl⟩)
  exact ⟨[.int 0, .non], _, fd, _, F, He.glo_ok X G (D.fact 16 (f := .glo "most_days") rfl), b⟩
theorem has_fewest_way (X : K.In h) (G : h.Ns mainGlobals mg) (D : He.SaysD fa fn K) : Has K mg "fewest_way" s_fewest_way p_fewest_way := by
  obtain ⟨fd, F⟩ := D.def_ 17 (d := d_fewest_way) rfl
  obtain ⟨ds, v, b⟩ := FunD.binds1 (ps := p_fewest_way) (dvs := [.int 0, .non]) F 6 2 (by simp) rfl (fun _ _ _ _ _ _ _ us its h1 h2 => match us, its, h1, h2 with | [_, _, _, _, _, _], [_, _], _, _ => ⟨_, rfl, rfl⟩)
  cases v
  exact ⟨[.int 0, .non], _, fd, F, He.glo_ok X G (D.fact 17 (f := .glo "fewest_way") rfl), b⟩
theorem has_most_way (X : K.In h) (G : h.Ns mainGlobals mg) (D : He.SaysD fa fn K) : HasK K mg "most_way" s_most_way p_most_way 5 ["end"] := by
  obtain ⟨fd, F⟩ := D.def_ 18 (d := d_most_way) rfl
  obtain ⟨its, b⟩ := FunD.kbindsD (ps := p_most_way) (dvs := [.int 0, .non]) F 5 ["end"] (fun us _ ws => us ++ ws) (by simp) (fun r1 _ r3 => r1.append r3) (fun _ _ _ _ _ _ _ us its ws h1 h2 h3 => match us, its, ws, h1, h2, h3 with | [_, _, _, _, _], [_, _], [_], _, _, _ => ⟨_, rfl, rfl⟩)
  exact ⟨[.int 0, .non], _, fd, _, F, He.glo_ok X G (D.fact 18 (f := .glo "most_way") rfl), b⟩
theorem has_law_kept (X : K.In h) (G : h.Ns mainGlobals mg) (D : He.SaysD fa fn K) : Has K mg "_law_kept" s_law_kept p_law_kept := by
  obtain ⟨fd, F⟩ := D.def_ 19 (d := d_law_kept) rfl
  exact ⟨[], _, fd, F, He.glo_ok X G (D.fact 19 (f := .glo "_law_kept") rfl), FunD.bindsN (ps := p_law_kept) F fun _ _ _ _ _ _ us hl => match us, hl with | [_, _], _ => rfl⟩
theorem has_law_early (X : K.In h) (G : h.Ns mainGlobals mg) (D : He.SaysD fa fn K) : Has K mg "_law_early" s_law_early p_law_early := by
  obtain ⟨fd, F⟩ := D.def_ 20 (d := d_law_early) rfl
  exact ⟨[], _, fd, F, He.glo_ok X G (D.fact 20 (f := .glo "_law_early") rfl), FunD.bindsN (ps := p_law_early) F fun _ _ _ _ _ _ us hl => match us, hl with | [_, _], _ => rfl⟩
theorem has_law_gap (X : K.In h) (G : h.Ns mainGlobals mg) (D : He.SaysD fa fn K) : Has K mg "_law_gap" s_law_gap p_law_gap := by
  obtain ⟨fd, F⟩ := D.def_ 21 (d := d_law_gap) rfl
  exact ⟨[], _, fd, F, He.glo_ok X G (D.fact 21 (f := .glo "_law_gap") rfl), FunD.bindsN (ps := p_law_gap) F fun _ _ _ _ _ _ us hl => match us, hl with | [_, _, _, _], _ => rfl⟩
theorem has_law_mix (X : K.In h) (G : h.Ns mainGlobals mg) (D : He.SaysD fa fn K) : Has K mg "_law_mix" s_law_mix p_law_mix := by
  obtain ⟨fd, F⟩ := D.def_ 22 (d := d_law_mix) rfl
  exact ⟨[], _, fd, F, He.glo_ok X G (D.fact 22 (f := .glo "_law_mix") rfl), FunD.bindsN (ps := p_law_mix) F fun _ _ _ _ _ _ us hl => match us, hl with | [_], _ => rfl⟩
theorem has_law_raw (X : K.In h) (G : h.Ns mainGlobals mg) (D : He.SaysD fa fn K) : Has K mg "_law_raw" s_law_raw p_law_raw := by
  obtain ⟨fd, F⟩ := D.def_ 23 (d := d_law_raw) rfl
  exact ⟨[], _, fd, F, He.glo_ok X G (D.fact 23 (f := .glo "_law_raw") rfl), FunD.bindsN (ps := p_law_raw) F fun _ _ _ _ _ _ us hl => match us, hl with | [_, _], _ => rfl⟩
theorem has_law_digits (X : K.In h) (G : h.Ns mainGlobals mg) (D : He.SaysD fa fn K) : Has K mg "_law_digits" s_law_digits p_law_digits := by
  obtain ⟨fd, F⟩ := D.def_ 24 (d := d_law_digits) rfl
  exact ⟨[], _, fd, F, He.glo_ok X G (D.fact 24 (f := .glo "_law_digits") rfl), FunD.bindsN (ps := p_law_digits) F fun _ _ _ _ _ _ us hl => match us, hl with | [_, _, _], _ => rfl⟩
theorem has_law_great (X : K.In h) (G : h.Ns mainGlobals mg) (D : He.SaysD fa fn K) : Has K mg "_law_great" s_law_great p_law_great := by
  obtain ⟨fd, F⟩ := D.def_ 25 (d := d_law_great) rfl
  exact ⟨[], _, fd, F, He.glo_ok X G (D.fact 25 (f := .glo "_law_great") rfl), FunD.bindsN (ps := p_law_great) F fun _ _ _ _ _ _ us hl => match us, hl with | [_, _, _], _ => rfl⟩
theorem has_law_row (X : K.In h) (G : h.Ns mainGlobals mg) (D : He.SaysD fa fn K) : Has K mg "_law_row" s_law_row p_law_row := by
  obtain ⟨fd, F⟩ := D.def_ 26 (d := d_law_row) rfl
  exact ⟨[], _, fd, F, He.glo_ok X G (D.fact 26 (f := .glo "_law_row") rfl), FunD.bindsN (ps := p_law_row) F fun _ _ _ _ _ _ us hl => match us, hl with | [_, _, _], _ => rfl⟩
theorem has_law_run (X : K.In h) (G : h.Ns mainGlobals mg) (D : He.SaysD fa fn K) : Has K mg "_law_run" s_law_run p_law_run := by
  obtain ⟨fd, F⟩ := D.def_ 27 (d := d_law_run) rfl
  exact ⟨[], _, fd, F, He.glo_ok X G (D.fact 27 (f := .glo "_law_run") rfl), FunD.bindsN (ps := p_law_run) F fun _ _ _ _ _ _ us hl => match us, hl with | [_, _, _], _ => rfl⟩
theorem has_law_same (X : K.In h) (G : h.Ns mainGlobals mg) (D : He.SaysD fa fn K) : Has K mg "_law_same" s_law_same p_law_same := by
  obtain ⟨fd, F⟩ := D.def_ 28 (d := d_law_same) rfl
  exact ⟨[], _, fd, F, He.glo_ok X G (D.fact 28 (f := .glo "_law_same") rfl), FunD.bindsN (ps := p_law_same) F fun _ _ _ _ _ _ us hl => match us, hl with | [_, _], _ => rfl⟩
theorem has_law_num (X : K.In h) (G : h.Ns mainGlobals mg) (D : He.SaysD fa fn K) : Has K mg "_law_num" s_law_num p_law_num := by
  obtain ⟨fd, F⟩ := D.def_ 29 (d := d_law_num) rfl
  exact ⟨[], _, fd, F, He.glo_ok X G (D.fact 29 (f := .glo "_law_num") rfl), FunD.bindsN (ps := p_law_num) F fun _ _ _ _ _ _ us hl => match us, hl with | [_], _ => rfl⟩
theorem has_law_turns (X : K.In h) (G : h.Ns mainGlobals mg) (D : He.SaysD fa fn K) : Has K mg "_law_turns" s_law_turns p_law_turns := by
  obtain ⟨fd, F⟩ := D.def_ 30 (d := d_law_turns) rfl
  exact ⟨[], _, fd, F, He.glo_ok X G (D.fact 30 (f := .glo "_law_turns") rfl), FunD.bindsN (ps := p_law_turns) F fun _ _ _ _ _ _ us hl => match us, hl with | [_, _, _, _], _ => rfl⟩
theorem has_law_count (X : K.In h) (G : h.Ns mainGlobals mg) (D : He.SaysD fa fn K) : Has K mg "_law_count" s_law_count p_law_count := by
  obtain ⟨fd, F⟩ := D.def_ 31 (d := d_law_count) rfl
  exact ⟨[], _, fd, F, He.glo_ok X G (D.fact 31 (f := .glo "_law_count") rfl), FunD.bindsN (ps := p_law_count) F fun _ _ _ _ _ _ us hl => match us, hl with | [_, _, _, _, _], _ => rfl⟩
theorem has_law_good_way (X : K.In h) (G : h.Ns mainGlobals mg) (D : He.SaysD fa fn K) : Has K mg "_law_good_way" s_law_good_way p_law_good_way := by
  obtain ⟨fd, F⟩ := D.def_ 32 (d := d_law_good_way) rfl
  exact ⟨[], _, fd, F, He.glo_ok X G (D.fact 32 (f := .glo "_law_good_way") rfl), FunD.bindsN (ps := p_law_good_way) F fun _ _ _ _ _ _ us hl => match us, hl with | [_, _, _], _ => rfl⟩
theorem has_law_more (X : K.In h) (G : h.Ns mainGlobals mg) (D : He.SaysD fa fn K) : Has K mg "_law_more" s_law_more p_law_more := by
  obtain ⟨fd, F⟩ := D.def_ 33 (d := d_law_more) rfl
  exact ⟨[], _, fd, F, He.glo_ok X G (D.fact 33 (f := .glo "_law_more") rfl), FunD.bindsN (ps := p_law_more) F fun _ _ _ _ _ _ us hl => match us, hl with | [_, _, _, _, _, _, _], _ => rfl⟩
theorem has_law_least (X : K.In h) (G : h.Ns mainGlobals mg) (D : He.SaysD fa fn K) : Has K mg "_law_least" s_law_least p_law_least := by
  obtain ⟨fd, F⟩ := D.def_ 34 (d := d_law_least) rfl
  exact ⟨[], _, fd, F, He.glo_ok X G (D.fact 34 (f := .glo "_law_least") rfl), FunD.bindsN (ps := p_law_least) F fun _ _ _ _ _ _ us hl => match us, hl with | [_, _, _, _, _, _], _ => rfl⟩
theorem has_init (X : K.In h) (G : h.Ns mainGlobals mg) (D : He.SaysD fa fn K) : HasI K mg "Asked" (He.ga K "Asked") "Asked.__init__" s_init p_init := by
  obtain ⟨fd, F⟩ := D.def_ 36 (d := d_init) rfl
  exact ⟨_, fd, F, He.glo_ok X G (D.fact 36 (f := .glo "Asked") rfl), He.mkr_ok (D.fact 69 (f := .mkr "Asked") rfl), FunD.bindsN (ps := p_init) F fun _ _ _ _ _ _ us hl => match us, hl with | [_, _, _, _, _, _], _ => rfl⟩
theorem has_with_days (D : He.SaysD fa fn K) : HasM K (He.ga K "Asked") "with_days" "Asked.with_days" s_with_days p_with_days := by
  obtain ⟨fd, F⟩ := D.def_ 37 (d := d_with_days) rfl
  exact ⟨_, fd, F, He.cls_ok (D.fact 57 (f := .cls "Asked") rfl), He.meth_ok (D.fact 65 (f := .meth "Asked" "with_days") rfl), FunD.bindsN (ps := p_with_days) F fun _ _ _ _ _ _ us hl => match us, hl with | [_, _], _ => rfl⟩
theorem has_endings (D : He.SaysD fa fn K) : HasM K (He.ga K "Asked") "endings" "Asked.endings" s_endings p_endings := by
  obtain ⟨fd, F⟩ := D.def_ 38 (d := d_endings) rfl
  exact ⟨_, fd, F, He.cls_ok (D.fact 57 (f := .cls "Asked") rfl), He.meth_ok (D.fact 66 (f := .meth "Asked" "endings") rfl), FunD.bindsN (ps := p_endings) F fun _ _ _ _ _ _ us hl => match us, hl with | [_], _ => rfl⟩
theorem has_longest (D : He.SaysD fa fn K) : HasM K (He.ga K "Asked") "longest" "Asked.longest" s_longest p_longest := by
  obtain ⟨fd, F⟩ := D.def_ 40 (d := d_longest) rfl
  exact ⟨_, fd, F, He.cls_ok (D.fact 57 (f := .cls "Asked") rfl), He.meth_ok (D.fact 68 (f := .meth "Asked" "longest") rfl), FunD.bindsN (ps := p_longest) F fun _ _ _ _ _ _ us hl => match us, hl with | [_], _ => rfl⟩
end
section
variable {P : Program} {w : World} {K : PySem.W.Frag} {mg : Str → Option Value} {base : Heap} {j k : Nat}
theorem calM {x : Str} {sp : Sp} {dvs : List L2.V} (c : C8.Cal P w K mg base k x sp dvs) (h : k ≤ j) : C8.Cal P w K mg base j x sp dvs := by
  obtain ⟨f, fd, ps, ds, F, r⟩ := c.ex
  exact ⟨f, fd, ps, ds, F.mono h, r⟩
theorem metM {C : Addr} {m : Str} {sp : Sp} {dvs : List L2.V} (c : C8.Met P w K mg base k C m sp dvs) (h : k ≤ j) : C8.Met P w K mg base j C m sp dvs := by
  obtain ⟨f, fd, ps, ds, a, b, F, r⟩ := c.ex
  exact ⟨f, fd, ps, ds, a, b, F.mono h, r⟩
end
/-! ### the functions, layer by layer, and law's promise -/
theorem law_ok {P : Program} {w : World} {h base : Heap} {K : PySem.W.Frag} {mg : Str → Option Value} {c Pt fL : Addr} {fdL fdS : FuncData} (X : K.In h) (N : h.Ns mainGlobals mg) (D : He.SaysD fa fn K) (FL : FunD K "law" "law" (defArgs s_law) (defBody s_law) (defScope s_law) [] [] fL fdL)
    (FS : FunD K "shortest" "Asked.shortest" (defArgs s_shortest) (defBody s_shortest) (defScope s_shortest) [] [] (He.fAd K ("Asked", some "shortest")) fdS) (ec : fdS.code = .ref c) (TB : LamX.TabB base mg c Pt) :
    FnOk P w K mg base C8.CX0 7 fL fdL p_law (sp_law K [(Pt, qL)]) := by
  have G : Gs mg := gs_of X N D
  have T : Ak K (He.ga K "Asked") := ak_of D
  have c_is_day : C8.Cal P w K mg base 1 "is_day" sp_is_day [] := (has_is_day X N D).cal sc_is_day (fun _ _ _ _ h => by obtain ⟨_, rfl, _⟩ := h; rfl) (b_is_day G 0)
  have c_need_day : C8.Cal P w K mg base 2 "need_day" sp_need_day [] := (has_need_day X N D).cal sc_need_day (fun _ _ _ _ h => by obtain ⟨_, rfl, _⟩ := h; rfl) (b_need_day c_is_day (Nat.le_refl 1))
  have c_need_run : C8.Cal P w K mg base 3 "need_run" sp_need_run [] := (has_need_run X N D).cal sc_need_run (fun _ _ _ _ h => by obtain ⟨_, _, rfl, _⟩ := h; rfl) (b_need_run G c_need_day (Nat.le_refl 2))
  have c_is_tie : C8.Cal P w K mg base 1 "is_tie" (sp_is_tie K) [] := (has_is_tie X N D).cal sc_is_tie (fun _ _ _ _ h => by obtain ⟨_, _, _, rfl, _⟩ := h; rfl) (b_is_tie G 0)
  have c_need_many : C8.Cal P w K mg base 2 "need_many" sp_need_many [] := (has_need_many X N D).cal sc_need_many (fun _ _ _ _ h => by obtain ⟨_, rfl, _⟩ := h; rfl) (b_need_many G 1)
  have c_need_tie : C8.Cal P w K mg base 2 "need_tie" (sp_need_tie K) [] := (has_need_tie X N D).cal sc_need_tie (fun _ _ _ _ h => by obtain ⟨_, _, _, rfl, _⟩ := h; rfl) (b_need_tie c_is_tie (Nat.le_refl 1))
  have c_need_ties : C8.Cal P w K mg base 3 "need_ties" (sp_need_ties K) [] := (has_need_ties X N D).cal sc_need_ties (fun _ _ _ _ h => by obtain ⟨_, _, _, rfl, _⟩ := h; rfl) (b_need_ties G c_need_many c_need_tie (Nat.le_refl 2))
  have c_need_row : C8.Cal P w K mg base 3 "need_row" (sp_need_row K) [] := (has_need_row X N D).cal sc_need_row (fun _ _ _ _ h => by obtain ⟨_, _, _, rfl, _⟩ := h; rfl) (b_need_row G 2)
  have c_need_in : C8.Cal P w K mg base 3 "need_in" (sp_need_in K) [] := (has_need_in X N D).cal sc_need_in (fun _ _ _ _ h => by obtain ⟨_, _, _, _, rfl, _⟩ := h; rfl) (b_need_in 2)
  have c_first_table : C8.Cal P w K mg base 1 "first_table" sp_first_table [] := (has_first_table X N D).cal sc_first_table (fun _ _ _ _ h => by obtain ⟨_, rfl, _⟩ := h; rfl) (b_first_table G 0)
  have c_tightened : C8.Cal P w K mg base 1 "tightened" sp_tightened [] := (has_tightened X N D).cal sc_tightened (fun _ _ _ _ h => by obtain ⟨_, _, _, _, _, rfl, _⟩ := h; rfl) (b_tightened G 0)
  have c_table_of : C8.Cal P w K mg base 2 "table_of" (sp_table_of K) [] := (has_table_of X N D).cal sc_table_of (fun _ _ _ _ h => by obtain ⟨_, _, _, rfl, _⟩ := h; rfl) (b_table_of G c_first_table c_tightened (Nat.le_refl 1))
  have c_need_table : C8.Cal P w K mg base 3 "need_table" (sp_need_table K) [] := (has_need_table X N D).cal sc_need_table (fun _ _ _ _ h => by obtain ⟨_, _, _, _, rfl, _⟩ := h; rfl) (b_need_table c_table_of (Nat.le_refl 2))
  have c_early_of : C8.Cal P w K mg base 4 "early_of" sp_early_of [] := (has_early_of X N D).cal sc_early_of (fun _ _ _ _ h => by obtain ⟨_, _, _, rfl, _⟩ := h; rfl) (b_early_of 3)
  have c_late_of : C8.Cal P w K mg base 4 "late_of" sp_late_of [] := (has_late_of X N D).cal sc_late_of (fun _ _ _ _ h => by obtain ⟨_, _, _, rfl, _⟩ := h; rfl) (b_late_of 3)
  have k_init : C8.Mak P w K mg base 4 "Asked" (He.ga K "Asked") (sp_init K (He.ga K "Asked")) [] := (has_init X N D).mak sc_init (fun _ _ _ _ h => by obtain ⟨_, _, _, _, _, _, _, _, _, _, _, _, _, _, rfl, _⟩ := h; rfl) (b_init G T c_need_ties c_need_table c_need_row c_need_run c_need_in (Nat.le_refl 3))
  have m_with_days : C8.Met P w K mg base 3 (He.ga K "Asked") "with_days" (sp_with_days K (He.ga K "Asked")) [] := (has_with_days D).met sc_with_days (fun _ _ _ _ h => by obtain ⟨_, _, _, _, _, _, _, _, _, rfl, _⟩ := h; rfl) (b_with_days G T c_table_of (Nat.le_refl 2))
  have m_longest : C8.Met P w K mg base 4 (He.ga K "Asked") "longest" (sp_longest K (He.ga K "Asked")) [] := (has_longest D).met sc_longest (fun _ _ _ _ h => by obtain ⟨_, _, _, _, _, _, _, _, rfl, _⟩ := h; rfl) (b_longest T m_with_days (Nat.le_refl 3))
  have m_endings : C8.Met P w K mg base 3 (He.ga K "Asked") "endings" (sp_endings K (He.ga K "Asked")) [] := (has_endings D).met sc_endings (fun _ _ _ _ h => by obtain ⟨_, _, _, _, _, _, _, _, rfl, _⟩ := h; rfl) (b_endings G T 2)
  have m_shortest : C8.Met P w K mg base 4 (He.ga K "Asked") "shortest" (sp_shortest K (He.ga K "Asked") [(Pt, qL)]) [] := by
    have b : Binds K fdS p_shortest [] := FunD.bindsN (ps := p_shortest) FS fun _ _ _ _ _ _ us hl => match us, hl with | [_], _ => rfl
    obtain ⟨oc, od, dV, kV, doc, pm, an, cdv, ct, osl, rfl, lk, hcd, _, _⟩ := FS.ex
    have ec2 : cdv = .ref c := ec
    subst ec2
    exact met_shortest G lk hcd (He.cls_ok (D.fact 57 (f := .cls "Asked") rfl)) (He.meth_ok (D.fact 67 (f := .meth "Asked" "shortest") rfl)) b TB m_endings (Nat.le_refl 3) (by omega)
  have c_fewest_days : C8.Cal P w K mg base 6 "fewest_days" (sp_fewest_days K [(Pt, qL)]) [] := (has_fewest_days X N D).cal sc_fewest_days (fun _ _ _ _ h => by obtain ⟨_, _, _, _, _, _, _, _, _, rfl, _⟩ := h; rfl) (b_fewest_days G k_init m_shortest (Nat.le_refl 5))
  have c_most_days : CalK P w K mg base 6 "most_days" 4 ["start", "end"] (sp_most_days K) := (has_most_days X N D).cal sc_most_days (fun _ _ _ _ h => by obtain ⟨_, _, _, _, _, _, _, _, _, rfl, _⟩ := h; rfl) (b_most_days k_init m_longest (Nat.le_refl 5))
  have c_fewest_way : C8.Cal P w K mg base 6 "fewest_way" (sp_fewest_way K [(Pt, qL)]) [] := (has_fewest_way X N D).cal sc_fewest_way (fun _ _ _ _ h => by obtain ⟨_, _, _, _, _, _, _, _, _, rfl, _⟩ := h; rfl) (b_fewest_way T k_init m_shortest c_early_of (calM c_table_of (by omega)) (Nat.le_refl 5))
  have c_most_way : CalK P w K mg base 6 "most_way" 5 ["end"] (sp_most_way K) := (has_most_way X N D).cal sc_most_way (fun _ _ _ _ h => by obtain ⟨_, _, _, _, _, _, _, _, _, rfl, _⟩ := h; rfl) (b_most_way T k_init m_longest (metM m_with_days (by omega)) c_late_of (Nat.le_refl 5))
  have c_law_kept : C8.Cal P w K mg base 1 "_law_kept" (sp_law_kept K) [] := (has_law_kept X N D).cal sc_law_kept (fun _ _ _ _ h => by obtain ⟨_, _, _, _, rfl, _⟩ := h; rfl) (b_law_kept 0)
  have c_law_early : C8.Cal P w K mg base 2 "_law_early" (sp_law_early K) [] := (has_law_early X N D).cal sc_law_early (fun _ _ _ _ h => by obtain ⟨_, _, _, rfl, _⟩ := h; rfl) (b_law_early G c_law_kept (Nat.le_refl 1))
  have c_law_gap : C8.Cal P w K mg base 1 "_law_gap" (sp_law_gap K) [] := (has_law_gap X N D).cal sc_law_gap (fun _ _ _ _ h => by obtain ⟨_, _, _, _, _, rfl, _⟩ := h; rfl) (b_law_gap G 0)
  have c_law_mix : C8.Cal P w K mg base 1 "_law_mix" sp_law_mix [] := (has_law_mix X N D).cal sc_law_mix (fun _ _ _ _ h => by obtain ⟨_, rfl, _⟩ := h; rfl) (b_law_mix 0)
  have c_law_raw : C8.Cal P w K mg base 2 "_law_raw" (sp_law_raw K) [] := (has_law_raw X N D).cal sc_law_raw (fun _ _ _ _ h => by obtain ⟨_, _, _, rfl, _⟩ := h; rfl) (b_law_raw G c_law_mix (Nat.le_refl 1))
  have c_law_digits : C8.Cal P w K mg base 3 "_law_digits" (sp_law_digits K) [] := (has_law_digits X N D).cal sc_law_digits (fun _ _ _ _ h => by obtain ⟨_, _, _, _, _, rfl, _⟩ := h; rfl) (b_law_digits c_law_raw (Nat.le_refl 2))
  have c_law_great : C8.Cal P w K mg base 4 "_law_great" (sp_law_great K) [] := (has_law_great X N D).cal sc_law_great (fun _ _ _ _ h => by obtain ⟨_, _, _, rfl, _⟩ := h; rfl) (b_law_great G c_law_digits (Nat.le_refl 3))
  have c_law_row : C8.Cal P w K mg base 4 "_law_row" (sp_law_row K) [] := (has_law_row X N D).cal sc_law_row (fun _ _ _ _ h => by obtain ⟨_, _, _, _, rfl, _⟩ := h; rfl) (b_law_row G c_law_digits (Nat.le_refl 3))
  have c_law_run : C8.Cal P w K mg base 4 "_law_run" (sp_law_run K) [] := (has_law_run X N D).cal sc_law_run (fun _ _ _ _ h => by obtain ⟨_, _, _, _, _, rfl, _⟩ := h; rfl) (b_law_run G c_law_digits (Nat.le_refl 3))
  have c_law_same : C8.Cal P w K mg base 1 "_law_same" sp_law_same [] := (has_law_same X N D).cal sc_law_same (fun _ _ _ _ h => by obtain ⟨_, _, rfl, _⟩ := h; rfl) (b_law_same G 0)
  have c_law_num : C8.Cal P w K mg base 1 "_law_num" sp_law_num [] := (has_law_num X N D).cal sc_law_num (fun _ _ _ _ h => by obtain ⟨_, rfl, _⟩ := h; rfl) (b_law_num G 0)
  have c_law_turns : C8.Cal P w K mg base 1 "_law_turns" (sp_law_turns K) [] := (has_law_turns X N D).cal sc_law_turns (fun _ _ _ _ h => by obtain ⟨_, _, _, _, _, _, rfl, _⟩ := h; rfl) (b_law_turns G 0)
  have c_law_count : C8.Cal P w K mg base 2 "_law_count" (sp_law_count K) [] := (has_law_count X N D).cal sc_law_count (fun _ _ _ _ h => by obtain ⟨_, _, _, _, _, _, _, _, rfl, _⟩ := h; rfl) (b_law_count G c_law_turns (Nat.le_refl 1))
  have c_law_good_way : C8.Cal P w K mg base 2 "_law_good_way" (sp_law_good_way K) [] := (has_law_good_way X N D).cal sc_law_good_way (fun _ _ _ _ h => by obtain ⟨_, _, _, _, _, rfl, _⟩ := h; rfl) (b_law_good_way G c_law_num c_law_kept (Nat.le_refl 1))
  have c_law_more : C8.Cal P w K mg base 3 "_law_more" (sp_law_more K) [] := (has_law_more X N D).cal sc_law_more (fun _ _ _ _ h => by obtain ⟨_, _, _, _, _, _, _, _, _, _, _, rfl, _⟩ := h; rfl) (b_law_more c_law_early (Nat.le_refl 2))
  have c_law_least : C8.Cal P w K mg base 2 "_law_least" (sp_law_least K) [] := (has_law_least X N D).cal sc_law_least (fun _ _ _ _ h => by obtain ⟨_, _, _, _, _, _, _, _, _, rfl, _⟩ := h; rfl) (b_law_least G c_law_gap (Nat.le_refl 1))
  refine FL.ok sc_law (fun _ _ _ _ h => by obtain ⟨_, _, rfl, _⟩ := h; rfl) fun cdv A outer s H vs Q E hr hsp => ?_
  obtain ⟨t, h1, q⟩ := b_law (T := [(Pt, qL)]) G (calM c_law_great (by omega)) (calM c_law_row (by omega)) (calM c_law_run (by omega)) c_fewest_days c_most_days (calM c_law_least (by omega)) (calM c_law_same (by omega)) (calM c_law_num (by omega)) (calM c_law_count (by omega)) (calM c_law_more (by omega)) c_fewest_way c_most_way (calM c_law_good_way (by omega)) (Nat.le_refl 6) fL cdv A outer s H vs Q E hr hsp
  exact ⟨t, h1.nox, q⟩
/-! ### the end -/
theorem law_at {w : World} {h : Heap} {K : PySem.W.Frag} {mg : Str → Option Value} {f : Addr} (X : K.In h) (N : h.Ns mainGlobals mg) (hfa : mg ("law" : Str) = some (.ref f)) (c : He.SaysX fa fn [] tf (fun _ => true) w h K) :
    LamX.LawAtS PySem.Challenge.rw_lifehold_k30_whole_ways_of_fewest_and_mo w K C8.CX0 7 63 "_law_script" mg f h := by
  have D : He.SaysD fa fn K := c.t.d
  obtain ⟨fdS, FS⟩ := D.def_ 39 (d := d_shortest) rfl
  obtain ⟨fdL, FL⟩ := D.def_ 35 (d := d_law) rfl
  have e := hfa.symm.trans (He.glo_ok X N (D.fact 35 (f := .glo "law") rfl))
  cases e
  obtain ⟨cc, ecc, lkc⟩ : ∃ cc, fdS.code = .ref cc ∧ He.codeOf K ("Asked", some "shortest") = cc := by
    obtain ⟨oc, od, dV, kV, doc, pm, an, cdv, ct, osl, rfl, lk, hcd, _, _⟩ := FS.ex
    obtain ⟨cc, rfl⟩ := He.codeIn_ref hcd
    exact ⟨cc, rfl, He.codeOf_eq lk rfl⟩
  have ep : He.cT K ("Asked", some "shortest") = (cc, He.tabOf K cc) := by
    unfold He.cT
    rw [lkc]
  have mem : (("Asked", some "shortest") : He.Defn) ∈ tf := List.mem_singleton.mpr rfl
  have h1 := c.empty _ mem
  have h2 := c.out _ mem
  have h3 := c.hd _ mem
  rw [ep] at h1 h2 h3
  refine ⟨fdL, [(cc, He.tabOf K cc)], sp_law K [(He.tabOf K cc, qL)], fun p hp => ?_, fun p hp => ?_, fun p hp => ?_, fun s u => FunD.bindsA (ps := p_law) FL (fun _ _ _ _ _ _ us hl => match us, hl with | [_], _ => rfl) s [u] rfl, fun H a ns hl _ hT hS => ⟨a, ns, rfl, hS, hl, fun q hq => ?_, fun _ => rfl⟩, fun base KX NX hB => ?_⟩
  · rw [List.mem_singleton.mp hp]
    exact h1
  · rw [List.mem_singleton.mp hp]
    exact h2
  · rw [List.mem_singleton.mp hp]
    exact PySem.W.codeHd_of_K X h3
  · rw [List.mem_singleton.mp hq]
    exact LamX.TabS.nil (hT (cc, He.tabOf K cc) (List.mem_singleton.mpr rfl))
  · exact law_ok X N D FL FS ecc (hB (cc, He.tabOf K cc) (List.mem_singleton.mpr rfl))
end Lh
open PySem PySem.W PySem.Calls PyProof.Rows
theorem PySem.Challenge.cw_lifehold_k30_whole_ways_of_fewest_and_mo_holds : PySem.Challenge.rw_lifehold_k30_whole_ways_of_fewest_and_mo.Holds := by
  w_on; o_law
  refine HandSHeadRun.head_any (r := OpenLaw.row PySem.Challenge.rw_lifehold_k30_whole_ways_of_fewest_and_mo) (q := view (OpenLaw.row PySem.Challenge.rw_lifehold_k30_whole_ways_of_fewest_and_mo).prog [60]) (H := Lh.hkL) (ob := Lh.ob) (M := 30000) (loose := Lh.loose) (d := HandSHeadRun.topDef (OpenLaw.row PySem.Challenge.rw_lifehold_k30_whole_ways_of_fewest_and_mo).prog 60) (kwd := []) Lh.ob_eq
    (by kernel_rfl) (fun s => by kernel_rfl) Lh.run (by kernel_rfl) (by kernel_rfl) (by kernel_rfl) (by rfl) (by first | assumption | decide +kernel) (by decide +kernel) ⟨rfl, rfl, rfl, rfl, rfl, by decide +kernel⟩ ?hw ?hc
  case hw => w_witness2
  case hc =>
    refine LamX.walk_ofTsE (l := PySem.Challenge.rw_lifehold_k30_whole_ways_of_fewest_and_mo) (n := 63) (k := 7) (x := "_law_script") (CX := fun _ => C8.CX0) rfl (by decide) (by kernel_rfl) ⟨rfl, by decide, by decide⟩ ?F (fun _ _ _ _ _ z => z)
    intro w mg fa h Y G hmg0
    obtain ⟨K, KX, c⟩ := Y
    have hmg : mg ("law" : PySem.Str) = some (.ref fa) := by
      have e : (HandSHeadRun.topDef (OpenLaw.row PySem.Challenge.rw_lifehold_k30_whole_ways_of_fewest_and_mo).prog 60).name = ("law" : PySem.Str) := by kernel_rfl
      rw [← e]
      exact hmg0
    exact ⟨K, KX, Lh.law_at KX G hmg c⟩
