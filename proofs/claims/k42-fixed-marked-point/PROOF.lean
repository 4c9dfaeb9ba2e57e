import PyProof.Rows.All
import Wide.All
import OpenK.AllK
import Wide.FinOn
import HandS.ForMost
import HandS.TupAny
import HandS.IsInst
import HandS.Wide
import HandS.Deep
import HandS.Nested
import HandS.EndTab
import HandS.Zip
import KE.KDictKeyed
import PySem.Challenge.RW_lots_k42_fixed_marked_point
import HandS.Rev
import HandS.RevTup
import KE.KDictList
import HandS.Conv
import HandS.Flow
import KE.KNestM
section
set_option autoImplicit false
namespace Lots

inductive Rec where
  | leaf (p q : Int)
  | fork (l : Nat) (ks : List Nat)
  deriving DecidableEq

abbrev Frac := Int × Int
abbrev Sto := List Rec

/-- the level of a node: of a leaf (or of none) the number of boxes -/
def lev (N : Nat) (st : Sto) (k : Nat) : Nat := match st[k]? with
  | some (.fork l _) => l
  | _ => N

theorem lev_fork {N : Nat} {st : Sto} {k l : Nat} {ks : List Nat} (h : st[k]? = some (.fork l ks)) : lev N st k = l := by
  unfold lev; rw [h]
theorem lev_leaf {N : Nat} {st : Sto} {k : Nat} {p q : Int} (h : st[k]? = some (.leaf p q)) : lev N st k = N := by
  unfold lev; rw [h]

structure Wf (szs : List Nat) (st : Sto) : Prop where
  nd : st.Nodup
  pos : ∀ z ∈ szs, 1 ≤ z
  fk : ∀ (i l : Nat) (ks : List Nat), st[i]? = some (.fork l ks) → szs[l]? = some ks.length ∧ (∀ k ∈ ks, k < i ∧ l < lev szs.length st k) ∧ ¬ ∃ a, ∀ k ∈ ks, k = a

inductive Val (st : Sto) : Nat → List Nat → Frac → Prop
  | leaf {n : Nat} {p q : Int} {s : List Nat} : st[n]? = some (.leaf p q) → Val st n s (p, q)
  | fork {n l : Nat} {ks s : List Nat} {i k : Nat} {v : Frac} : st[n]? = some (.fork l ks) → s[l]? = some i → ks[i]? = some k → Val st k s v → Val st n s v

def Valid (szs s : List Nat) : Prop := s.length = szs.length ∧ ∀ i a z : Nat, s[i]? = some a → szs[i]? = some z → a < z

/-! ### extension -/
def Ext (a b : Sto) : Prop := ∃ t, b = a ++ t
theorem Ext.refl (a : Sto) : Ext a a := ⟨[], (List.append_nil a).symm⟩
theorem Ext.trans {a b c : Sto} (h : Ext a b) (g : Ext b c) : Ext a c := by
  obtain ⟨t, rfl⟩ := h
  obtain ⟨u, rfl⟩ := g
  exact ⟨t ++ u, List.append_assoc _ _ _⟩
theorem Ext.len {a b : Sto} (h : Ext a b) : a.length ≤ b.length := by
  obtain ⟨t, rfl⟩ := h
  rw [List.length_append]; omega
theorem Ext.get {a b : Sto} (h : Ext a b) {i : Nat} {r : Rec} (e : a[i]? = some r) : b[i]? = some r := by
  obtain ⟨t, rfl⟩ := h
  have hi := (List.getElem?_eq_some_iff.mp e).1
  rw [List.getElem?_append_left hi]; exact e
theorem Ext.lev {a b : Sto} (h : Ext a b) {N k : Nat} (hk : k < a.length) : Lots.lev N b k = Lots.lev N a k := by
  have e : a[k]? = some a[k] := List.getElem?_eq_getElem hk
  unfold Lots.lev
  rw [h.get e, e]
theorem Val.ext {a b : Sto} (h : Ext a b) {n : Nat} {s : List Nat} {v : Frac} (x : Val a n s v) : Val b n s v := by
  induction x with
  | leaf e => exact .leaf (h.get e)
  | fork e1 e2 e3 _ ih => exact .fork (h.get e1) e2 e3 ih

theorem Val.fn {st : Sto} {n : Nat} {s : List Nat} {v w : Frac} (x : Val st n s v) (y : Val st n s w) : v = w := by
  induction x with
  | leaf e =>
    cases y with
    | leaf e' => rw [e] at e'; cases e'; rfl
    | fork e' => rw [e] at e'; cases e'
  | fork e1 e2 e3 _ ih =>
    cases y with
    | leaf e' => rw [e1] at e'; cases e'
    | fork f1 f2 f3 g =>
      rw [e1] at f1; cases f1
      rw [e2] at f2; cases f2
      rw [e3] at f3; cases f3
      exact ih g
theorem Val.lt {st : Sto} {n : Nat} {s : List Nat} {v : Frac} (x : Val st n s v) : n < st.length := by
  cases x with
  | leaf e => exact (List.getElem?_eq_some_iff.mp e).1
  | fork e => exact (List.getElem?_eq_some_iff.mp e).1

theorem Valid.at {szs s : List Nat} (h : Valid szs s) {l z : Nat} (e : szs[l]? = some z) : ∃ i, s[l]? = some i ∧ i < z := by
  have hl := (List.getElem?_eq_some_iff.mp e).1
  have hs : l < s.length := by rw [h.1]; exact hl
  exact ⟨s[l], List.getElem?_eq_getElem hs, h.2 l _ z (List.getElem?_eq_getElem hs) e⟩
theorem Valid.set {szs s : List Nat} (h : Valid szs s) {l z k : Nat} (e : szs[l]? = some z) (hk : k < z) : Valid szs (s.set l k) := by
  refine ⟨by rw [List.length_set]; exact h.1, fun i a y hi hy => ?_⟩
  by_cases hil : l = i
  · subst hil
    have hs : l < s.length := by rw [h.1]; exact (List.getElem?_eq_some_iff.mp e).1
    rw [List.getElem?_set_self hs] at hi
    cases hi
    rw [e] at hy; cases hy
    exact hk
  · rw [List.getElem?_set_ne hil] at hi
    exact h.2 i a y hi hy

theorem Wf.total {szs : List Nat} {st : Sto} (W : Wf szs st) : ∀ (d n : Nat), n ≤ d → n < st.length → ∀ s, Valid szs s → ∃ v, Val st n s v
  | 0, n, hd, hn, s, hs => by
    have e : st[n]? = some st[n] := List.getElem?_eq_getElem hn
    cases q : st[n] with
    | leaf p r => rw [q] at e; exact ⟨_, .leaf e⟩
    | fork l ks =>
      rw [q] at e
      obtain ⟨h1, h2, h3⟩ := W.fk n l ks e
      exfalso
      cases ks with
      | nil => exact h3 ⟨0, fun k hk => nomatch hk⟩
      | cons k r => have := (h2 k List.mem_cons_self).1; omega
  | d + 1, n, hd, hn, s, hs => by
    have e : st[n]? = some st[n] := List.getElem?_eq_getElem hn
    cases q : st[n] with
    | leaf p r => rw [q] at e; exact ⟨_, .leaf e⟩
    | fork l ks =>
      rw [q] at e
      obtain ⟨h1, h2, h3⟩ := W.fk n l ks e
      obtain ⟨i, hi, hlt⟩ := hs.at h1
      have hk : ks[i]? = some ks[i] := List.getElem?_eq_getElem hlt
      have hm := (h2 _ (List.getElem_mem hlt)).1
      obtain ⟨v, hv⟩ := Wf.total W d ks[i] (by omega) (by omega) s hs
      exact ⟨v, .fork e hi hk hv⟩

theorem Val.indep {szs : List Nat} {st : Sto} (W : Wf szs st) {n : Nat} {s : List Nat} {v : Frac} (x : Val st n s v) : ∀ {a k : Nat}, a < lev szs.length st n → Val st n (s.set a k) v := by
  induction x with
  | leaf e => intro a k _; exact .leaf e
  | @fork n l ks s i k' v e1 e2 e3 g ih =>
    intro a k ha
    rw [lev_fork e1] at ha
    have hm := ((W.fk n l ks e1).2.1 k' (List.mem_of_getElem? e3)).2
    exact .fork e1 (by rw [List.getElem?_set_ne (by omega)]; exact e2) e3 (ih (by omega))
theorem set_back {s : List Nat} {l i k : Nat} (h : s[l]? = some i) : (s.set l k).set l i = s := by
  rw [List.set_set]
  apply List.ext_getElem?
  intro j
  by_cases e : l = j
  · subst e
    rw [List.getElem?_set_self (List.getElem?_eq_some_iff.mp h).1, h]
  · rw [List.getElem?_set_ne e]
theorem Wf.lev_lt {szs : List Nat} {st : Sto} (W : Wf szs st) {n l : Nat} {ks : List Nat} (e : st[n]? = some (.fork l ks)) : l < szs.length :=
  (List.getElem?_eq_some_iff.mp (W.fk n l ks e).1).1
theorem nodup_at {st : Sto} (h : st.Nodup) {i j : Nat} {r : Rec} (a : st[i]? = some r) (b : st[j]? = some r) : i = j := by
  obtain ⟨h1, e1⟩ := List.getElem?_eq_some_iff.mp a
  obtain ⟨h2, e2⟩ := List.getElem?_eq_some_iff.mp b
  exact (List.getElem_inj h).mp (e1.trans e2.symm)
theorem zeros_valid {szs : List Nat} (h : ∀ z ∈ szs, 1 ≤ z) : Valid szs (szs.map fun _ => 0) := by
  refine ⟨List.length_map _, fun i a z ha hz => ?_⟩
  rw [List.getElem?_map, hz] at ha
  cases ha
  exact h z (List.mem_of_getElem? hz)

/-- nodes that tell the same are the same node -/
theorem Wf.canon {szs : List Nat} {st : Sto} (W : Wf szs st) : ∀ (d n m : Nat), n + m ≤ d → n < st.length → m < st.length →
    (∀ s v, Valid szs s → Val st n s v → Val st m s v) → n = m := by
  intro d
  induction d with
  | zero => intro n m hd _ _ _; omega
  | succ d ih =>
  intro n m hd hn hm hnm
  have hmn : ∀ s v, Valid szs s → Val st m s v → Val st n s v := fun s v hs x => by
    obtain ⟨w, hw⟩ := W.total n n (Nat.le_refl _) hn s hs
    rw [x.fn (hnm s w hs hw)]; exact hw
  -- a fork whose level lies ahead of the other's
  have key : ∀ (n m l : Nat) (ks : List Nat), n + m ≤ d + 1 → m < st.length → st[n]? = some (.fork l ks) → l < lev szs.length st m →
      (∀ s v, Valid szs s → Val st n s v → Val st m s v) → False := by
    intro n m l ks hd hm e hl hnm
    obtain ⟨h1, h2, h3⟩ := W.fk n l ks e
    refine h3 ⟨m, fun k hk => ?_⟩
    obtain ⟨i, hi, hki⟩ := List.getElem_of_mem hk
    have hk2 := h2 k hk
    have hn := (List.getElem?_eq_some_iff.mp e).1
    refine ih k m (by omega) (by omega) hm fun s v hs x => ?_
    obtain ⟨j, hj, _⟩ := hs.at h1
    have y : Val st n (s.set l i) v := by
      refine .fork e (List.getElem?_set_self ?_) (by rw [List.getElem?_eq_getElem hi, hki]) (x.indep W hk2.2)
      rw [hs.1]; exact (List.getElem?_eq_some_iff.mp h1).1
    have z := hnm _ v (hs.set h1 hi) y
    have z2 := z.indep W (a := l) (k := j) hl
    rwa [set_back hj] at z2
  have en : st[n]? = some st[n] := List.getElem?_eq_getElem hn
  have em : st[m]? = some st[m] := List.getElem?_eq_getElem hm
  cases qn : st[n] with
  | leaf p q =>
    rw [qn] at en
    cases qm : st[m] with
    | leaf p' q' =>
      rw [qm] at em
      have z0 := zeros_valid W.pos
      have x := hnm _ _ z0 (.leaf en)
      have y : Val st m (szs.map fun _ => 0) (p', q') := .leaf em
      have e := x.fn y
      injection e with e1 e2
      subst e1 e2
      exact nodup_at W.nd en em
    | fork l' ks' =>
      rw [qm] at em
      exact (key m n l' ks' (by omega) hn em (by rw [lev_leaf en]; exact W.lev_lt em) hmn).elim
  | fork l ks =>
    rw [qn] at en
    cases qm : st[m] with
    | leaf p' q' =>
      rw [qm] at em
      exact (key n m l ks (by omega) hm en (by rw [lev_leaf em]; exact W.lev_lt en) hnm).elim
    | fork l' ks' =>
      rw [qm] at em
      rcases Nat.lt_trichotomy l l' with h | h | h
      · exact (key n m l ks (by omega) hm en (by rw [lev_fork em]; exact h) hnm).elim
      · subst h
        obtain ⟨h1, h2, h3⟩ := W.fk n l ks en
        obtain ⟨g1, g2, g3⟩ := W.fk m l ks' em
        have el : ks.length = ks'.length := by
          rw [h1] at g1; exact Option.some.inj g1
        have ek : ks = ks' := by
          refine List.ext_getElem el fun i hi hi' => ?_
          have a := h2 _ (List.getElem_mem hi)
          have b := g2 _ (List.getElem_mem hi')
          refine ih _ _ (by omega) (by omega) (by omega) fun s v hs x => ?_
          obtain ⟨j, hj, _⟩ := hs.at h1
          have hsl : l < s.length := by rw [hs.1]; exact (List.getElem?_eq_some_iff.mp h1).1
          have y : Val st n (s.set l i) v := .fork en (List.getElem?_set_self hsl) (List.getElem?_eq_getElem hi) (x.indep W a.2)
          have z := hnm _ v (hs.set h1 hi) y
          cases z with
          | leaf f => rw [em] at f; cases f
          | fork f1 f2 f3 g =>
            rw [em] at f1; cases f1
            rw [List.getElem?_set_self hsl] at f2; cases f2
            rw [List.getElem?_eq_getElem hi'] at f3; cases f3
            have g' := g.indep W (a := l) (k := j) b.2
            rwa [set_back hj] at g'
        subst ek
        exact nodup_at W.nd en em
      · exact (key m n l' ks' (by omega) hn em (by rw [lev_fork en]; exact h) hmn).elim

/-! ### what a node tells -/
structure Nd (szs : List Nat) (st : Sto) (b : Nat) (n : Nat) (T : List Nat → Frac) : Prop where
  lt : n < st.length
  lv : b ≤ lev szs.length st n
  tl : ∀ s, Valid szs s → Val st n s (T s)
theorem Nd.ext {szs : List Nat} {a b : Sto} {l n : Nat} {T : List Nat → Frac} (x : Nd szs a l n T) (h : Ext a b) : Nd szs b l n T :=
  ⟨Nat.lt_of_lt_of_le x.lt h.len, by rw [h.lev x.lt]; exact x.lv, fun s hs => (x.tl s hs).ext h⟩
theorem Nd.low {szs : List Nat} {a : Sto} {l l' n : Nat} {T : List Nat → Frac} (x : Nd szs a l n T) (h : l' ≤ l) : Nd szs a l' n T :=
  ⟨x.lt, Nat.le_trans h x.lv, x.tl⟩
theorem Nd.congr {szs : List Nat} {a : Sto} {l n : Nat} {T T' : List Nat → Frac} (x : Nd szs a l n T) (h : ∀ s, Valid szs s → T s = T' s) : Nd szs a l n T' :=
  ⟨x.lt, x.lv, fun s hs => by rw [← h s hs]; exact x.tl s hs⟩
theorem Nd.same {szs : List Nat} {a : Sto} {l l' n m : Nat} {T T' : List Nat → Frac} (W : Wf szs a) (x : Nd szs a l n T) (y : Nd szs a l' m T') (h : ∀ s, Valid szs s → T s = T' s) : n = m :=
  W.canon _ n m (Nat.le_refl _) x.lt y.lt fun s v hs q => by
    rw [q.fn (x.tl s hs), h s hs]; exact y.tl s hs

/-- a new record -/
theorem Wf.push {szs : List Nat} {st : Sto} (W : Wf szs st) {r : Rec} (hn : r ∉ st)
    (hr : ∀ l ks, r = .fork l ks → szs[l]? = some ks.length ∧ (∀ k ∈ ks, k < st.length ∧ l < lev szs.length st k) ∧ ¬ ∃ a, ∀ k ∈ ks, k = a) : Wf szs (st ++ [r]) := by
  have E : Ext st (st ++ [r]) := ⟨_, rfl⟩
  refine ⟨?_, W.pos, fun i l ks e => ?_⟩
  · rw [List.nodup_append]
    refine ⟨W.nd, List.pairwise_singleton _ _, fun a ha b hb => ?_⟩
    rw [List.mem_singleton] at hb
    subst hb
    rintro rfl
    exact hn ha
  · by_cases hi : i < st.length
    · rw [List.getElem?_append_left hi] at e
      obtain ⟨h1, h2, h3⟩ := W.fk i l ks e
      exact ⟨h1, fun k hk => ⟨(h2 k hk).1, by rw [E.lev (by have := (h2 k hk).1; omega)]; exact (h2 k hk).2⟩, h3⟩
    · rw [List.getElem?_append_right (by omega)] at e
      have hi0 : i - st.length = 0 := by
        have := (List.getElem?_eq_some_iff.mp e).1
        rw [List.length_singleton] at this; omega
      rw [hi0] at e
      have er : r = .fork l ks := by simpa using e
      obtain ⟨h1, h2, h3⟩ := hr l ks er
      exact ⟨h1, fun k hk => ⟨by have := (h2 k hk).1; omega, by rw [E.lev (h2 k hk).1]; exact (h2 k hk).2⟩, h3⟩
theorem nd_leaf {szs : List Nat} {st : Sto} {n : Nat} {p q : Int} (e : st[n]? = some (.leaf p q)) : Nd szs st szs.length n fun _ => (p, q) :=
  ⟨(List.getElem?_eq_some_iff.mp e).1, by rw [lev_leaf e]; exact Nat.le_refl _, fun _ _ => .leaf e⟩
/-- a fork of kids that tell G i -/
theorem nd_fork {szs : List Nat} {st : Sto} {n l : Nat} {ks : List Nat} {G : Nat → List Nat → Frac} (e : st[n]? = some (.fork l ks)) (hz : szs[l]? = some ks.length)
    (hk : ∀ i k, ks[i]? = some k → Nd szs st (l + 1) k (G i)) : Nd szs st l n fun s => G (s.getD l 0) s := by
  refine ⟨(List.getElem?_eq_some_iff.mp e).1, by rw [lev_fork e]; exact Nat.le_refl _, fun s hs => ?_⟩
  obtain ⟨i, hi, hlt⟩ := hs.at hz
  have e3 : ks[i]? = some ks[i] := List.getElem?_eq_getElem hlt
  have eg : s.getD l 0 = i := by rw [List.getD_eq_getElem?_getD, hi]; rfl
  rw [eg]
  exact .fork e hi e3 ((hk i _ e3).tl s hs)
/-- .. where all kids are one node -/
theorem nd_one {szs : List Nat} {st : Sto} {l a : Nat} {ks : List Nat} {G : Nat → List Nat → Frac} (hz : szs[l]? = some ks.length) (ha : ∀ k ∈ ks, k = a) (h0 : 0 < ks.length)
    (hk : ∀ i k, ks[i]? = some k → Nd szs st (l + 1) k (G i)) : Nd szs st l a fun s => G (s.getD l 0) s := by
  have e0 : ks[0]? = some a := by rw [List.getElem?_eq_getElem h0, ha _ (List.getElem_mem h0)]
  have x := hk 0 a e0
  refine ⟨x.lt, Nat.le_trans (Nat.le_succ l) x.lv, fun s hs => ?_⟩
  obtain ⟨i, hi, hlt⟩ := hs.at hz
  have e3 : ks[i]? = some a := by rw [List.getElem?_eq_getElem hlt, ha _ (List.getElem_mem hlt)]
  have eg : s.getD l 0 = i := by rw [List.getD_eq_getElem?_getD, hi]; rfl
  rw [eg]
  exact (hk i a e3).tl s hs

/-- what kids a fork's record has, seen of what the fork tells -/
theorem nd_kid {szs : List Nat} {st : Sto} (W : Wf szs st) {n l b : Nat} {ks : List Nat} {T : List Nat → Frac} (x : Nd szs st b n T) (e : st[n]? = some (.fork l ks)) {i k : Nat} (hk : ks[i]? = some k) : Nd szs st (l + 1) k fun s => T (s.set l i) := by
  obtain ⟨h1, h2, h3⟩ := W.fk n l ks e
  have hm := h2 k (List.mem_of_getElem? hk)
  have hi := (List.getElem?_eq_some_iff.mp hk).1
  have hn := (List.getElem?_eq_some_iff.mp e).1
  refine ⟨by omega, hm.2, fun s hs => ?_⟩
  obtain ⟨j, hj, _⟩ := hs.at h1
  have hsl : l < s.length := by rw [hs.1]; exact (List.getElem?_eq_some_iff.mp h1).1
  have z := x.tl _ (hs.set h1 hi)
  generalize T (s.set l i) = v at z
  show Val st k s v
  cases z with
  | leaf f => rw [e] at f; cases f
  | fork f1 f2 f3 g =>
    rw [e] at f1; cases f1
    rw [List.getElem?_set_self hsl] at f2; cases f2
    rw [hk] at f3; cases f3
    have g' := g.indep W (a := l) (k := j) hm.2
    rwa [set_back hj] at g'
theorem nd_indep {szs : List Nat} {st : Sto} (W : Wf szs st) {n b : Nat} {T : List Nat → Frac} (x : Nd szs st b n T) {a k z : Nat} (ha : a < lev szs.length st n) (hz : szs[a]? = some z) (hk : k < z) {s : List Nat} (hs : Valid szs s) : T (s.set a k) = T s :=
  (x.tl _ (hs.set hz hk)).fn ((x.tl s hs).indep W ha)
end Lots
end
section
set_option Elab.async false
set_option maxRecDepth 100000
set_option maxHeartbeats 4000000
namespace Lots
open PySem PySem.Spec PyProof.Rows L2

/-! ### a record as a key -/
def keyOf : Rec → NestedKey
  | .leaf p q => .tup [.text "leaf", .tup [.num p, .num q]]
  | .fork l ks => .tup [.text "fork", .num (l : Int), .tup (ks.map fun (k : Nat) => NestedKey.num (k : Int))]
theorem nums_inj : ∀ {a b : List Nat}, (a.map fun (k : Nat) => NestedKey.num (k : Int)) = (b.map fun (k : Nat) => NestedKey.num (k : Int)) → a = b
  | [], [], _ => rfl
  | [], _ :: _, e => by simp at e
  | _ :: _, [], e => by simp at e
  | x :: xs, y :: ys, e => by
    rw [List.map_cons, List.map_cons] at e
    injection e with e1 e2
    injection e1 with e1
    rw [nums_inj e2, Int.ofNat.inj e1]
theorem keyOf_inj {a b : Rec} (e : keyOf a = keyOf b) : a = b := by
  cases a with
  | leaf p q => cases b with
    | leaf p' q' => simp [keyOf] at e; rw [e.1, e.2]
    | fork l ks => simp [keyOf] at e
  | fork l ks => cases b with
    | leaf p' q' => simp [keyOf] at e
    | fork l' ks' =>
      simp only [keyOf, NestedKey.tup.injEq, List.cons.injEq, NestedKey.num.injEq, true_and, and_true] at e
      rw [nums_inj e.2, Int.ofNat.inj e.1]
theorem depth_nums : ∀ ks : List Nat, NestedKey.depthAll (ks.map fun (k : Nat) => NestedKey.num (k : Int)) = 0
  | [] => rfl
  | k :: ks => by rw [List.map_cons, NestedKey.depthAll, depth_nums ks]; rfl
theorem depth_key (r : Rec) : (keyOf r).depth ≤ 8 := by
  cases r with
  | leaf p q => simp [keyOf, NestedKey.depth, NestedKey.depthAll]
  | fork l ks => simp [keyOf, NestedKey.depth, NestedKey.depthAll, depth_nums]

/-- the tuple at a is the record r -/
def RecAt (H : Hp) (a : Addr) : Rec → Prop
  | .leaf p q => ∃ t, H a = some (.tup [.str "leaf", .ref t]) ∧ H t = some (.tup [.int p, .int q])
  | .fork l ks => ∃ t, H a = some (.tup [.str "fork", .int (l : Int), .ref t]) ∧ H t = some (.tup (ks.map fun (k : Nat) => V.int (k : Int)))
section
variable {P : Program} {w : World} {H : Hp} {h : Heap} {a : Addr}
theorem tup_at {xs : List V} (ok : HOk P w H h) (e : H a = some (.tup xs)) : ∃ its : List Value, Vals xs its ∧ ∃ o n, h.get? a = some o ∧ o.cls = .type "tuple" ∧ o.data = .seq its.toArray n := by
  obtain ⟨_, its, r, o, h1, h2, n, h3⟩ := (show ObjOk P w H h a (.tup xs) from ok a _ e)
  exact ⟨its, r, o, n, h1, h2, h3⟩
theorem all_nums {h : Heap} : ∀ {ks : List Nat} {its : List Value}, Vals (ks.map fun (k : Nat) => V.int (k : Int)) its → NestedAll h (ks.map fun (k : Nat) => NestedKey.num (k : Int)) its
  | [], _, r => by rw [List.map_nil] at r; cases r; exact .nil
  | k :: ks, _, r => by
    rw [List.map_cons] at r
    cases r with
    | cons h t => obtain ⟨tk, e⟩ := h; subst e; exact .cons (.int _ _) (all_nums t)
theorem key_is {r : Rec} (ok : HOk P w H h) (e : RecAt H a r) : (nestedKind P w).is h (keyOf r) a := by
  refine ⟨?_, depth_key r⟩
  cases r with
  | leaf p q =>
    obtain ⟨t, h1, h2⟩ := e
    obtain ⟨its, r1, o, n, e1, e2, e3⟩ := tup_at ok h1
    obtain ⟨its2, r2, o2, n2, f1, f2, f3⟩ := tup_at ok h2
    cases r1 with
    | cons a1 r1 => cases r1 with
      | cons a2 r1 =>
        cases r1
        obtain ⟨tk, rfl⟩ := a1
        cases a2
        cases r2 with
        | cons b1 r2 => cases r2 with
          | cons b2 r2 =>
            cases r2
            obtain ⟨tk1, rfl⟩ := b1
            obtain ⟨tk2, rfl⟩ := b2
            exact .tup e1 e2 e3 (.cons (.text _ _) (.cons (.tup f1 f2 f3 (.cons (.int _ _) (.cons (.int _ _) .nil))) .nil))
  | fork l ks =>
    obtain ⟨t, h1, h2⟩ := e
    obtain ⟨its, r1, o, n, e1, e2, e3⟩ := tup_at ok h1
    obtain ⟨its2, r2, o2, n2, f1, f2, f3⟩ := tup_at ok h2
    cases r1 with
    | cons a1 r1 => cases r1 with
      | cons a2 r1 => cases r1 with
        | cons a3 r1 =>
          cases r1
          obtain ⟨tk, rfl⟩ := a1
          obtain ⟨tk', rfl⟩ := a2
          cases a3
          exact .tup e1 e2 e3 (.cons (.text _ _) (.cons (.int _ _) (.cons (.tup f1 f2 f3 (by simpa using all_nums r2)) .nil)))
end

/-! ### the dict of the places -/
def PlOk (P : Program) (w : World) (d : Addr) (as : List Addr) (st : Sto) (h : Heap) : Prop :=
  (d == sysModules) = false ∧ as.length = st.length ∧ ∃ (xs : List (NestedKey × Addr × Value)) (o : Obj) (es : Array DictEntry) (ep : Nat), xs.length = st.length ∧
    (∀ (i : Nat) (r : Rec) (a : Addr), st[i]? = some r → as[i]? = some a → ∃ t, xs[i]? = some (keyOf r, a, .int (i : Int) t)) ∧
    h.get? d = some o ∧ o.ExactDict ∧ o.data = .dict es ep ∧ es.toList = xs.map (entryOfKey (nestedKind P w))
def PlO (P : Program) (w : World) (d : Addr) (as : List Addr) (st : Sto) : HO := .ext (PlOk P w d as st)
section
variable {P : Program} {w : World} {H : Hp} {h : Heap} {d : Addr} {as : List Addr} {st : Sto}
theorem plO_obj {H' : Hp} (x : PlOk P w d as st h) : ObjOk P w H' h d (PlO P w d as st) := by
  obtain ⟨_, _, xs, o, es, ep, _, _, e, _⟩ := id x
  refine ⟨x, ⟨o, e⟩, fun h1 h2 x st => ?_⟩
  obtain ⟨a1, a2, xs, o, es, ep, a3, a4, a5, a6, a7, a8⟩ := x
  exact ⟨a1, a2, xs, o, es, ep, a3, a4, st _ a5, a6, a7, a8⟩
theorem plO_of (ok : HOk P w H h) (e : H d = some (PlO P w d as st)) : PlOk P w d as st h := by
  obtain ⟨x, _, _⟩ := ok d _ e
  exact x
/-- all records stand -/
def RecsAt (H : Hp) (as : List Addr) (st : Sto) : Prop := ∀ (i : Nat) (r : Rec), st[i]? = some r → ∃ a, as[i]? = some a ∧ RecAt H a r
theorem pl_dict (ok : HOk P w H h) (e : H d = some (PlO P w d as st)) (R : RecsAt H as st) (nd : st.Nodup) :
    (d == sysModules) = false ∧ as.length = st.length ∧ ∃ xs : List (NestedKey × Addr × Value), xs.length = st.length ∧ h.DictOfH (nestedKind P w) d xs ∧
      (∀ (i : Nat) (r : Rec) (a : Addr), st[i]? = some r → as[i]? = some a → ∃ t, xs[i]? = some (keyOf r, a, .int (i : Int) t)) := by
  obtain ⟨a1, a2, xs, o, es, ep, a3, a4, a5, a6, a7, a8⟩ := plO_of ok e
  have hx : ∀ i, i < xs.length → ∃ r a t, st[i]? = some r ∧ as[i]? = some a ∧ RecAt H a r ∧ xs[i]? = some (keyOf r, a, .int (i : Int) t) := fun i hi => by
    have hs : st[i]? = some st[i] := List.getElem?_eq_getElem (by omega)
    obtain ⟨a, ha, hr⟩ := R i _ hs
    obtain ⟨t, ht⟩ := a4 i _ a hs ha
    exact ⟨_, a, t, hs, ha, hr, ht⟩
  have ek : xs.map (·.1) = st.map keyOf := by
    apply List.ext_getElem?
    intro i
    by_cases hi : i < xs.length
    · obtain ⟨r, a, t, h1, h2, h3, h4⟩ := hx i hi
      rw [List.getElem?_map, List.getElem?_map, h4, h1]; rfl
    · rw [List.getElem?_eq_none (by rw [List.length_map]; omega), List.getElem?_eq_none (by rw [List.length_map]; omega)]
  refine ⟨a1, a2, xs, a3, ⟨o, es, ep, a5, a6, a7, a8, fun x hm => ?_, ?_⟩, a4⟩
  · obtain ⟨i, hi, ei⟩ := List.getElem_of_mem hm
    obtain ⟨r, a, t, h1, h2, h3, h4⟩ := hx i hi
    rw [List.getElem?_eq_getElem hi, ei] at h4
    cases h4
    exact key_is ok h3
  · rw [ek]
    refine List.pairwise_map.mpr (nd.imp ?_)
    intro a b hne e
    exact hne (keyOf_inj e)
end
theorem rec_of_key {st : Sto} {as : List Addr} {xs : List (NestedKey × Addr × Value)} (hl : xs.length = st.length) (ha : as.length = st.length)
    (hx : ∀ (i : Nat) (r : Rec) (a : Addr), st[i]? = some r → as[i]? = some a → ∃ t, xs[i]? = some (keyOf r, a, .int (i : Int) t)) {r : Rec} (hn : r ∉ st) : atKey xs (keyOf r) = none := by
  refine atKey_none_of_get fun j p e => hn ?_
  have hj := (List.getElem?_eq_some_iff.mp e).1
  have h1 : st[j]? = some st[j] := List.getElem?_eq_getElem (by omega)
  have h2 : as[j]? = some as[j] := List.getElem?_eq_getElem (by omega)
  obtain ⟨t, ht⟩ := hx j _ _ h1 h2
  rw [ht] at e
  injection e with e
  have ek := congrArg Prod.fst e
  rw [← keyOf_inj ek]
  exact List.getElem_mem _

/-- what the rules of the places ask: the records at as are st, the dict at d tells their places -/
structure PlAt (P : Program) (w : World) (H : Hp) (d : Addr) (as : List Addr) (st : Sto) : Prop where
  dc : H d = some (PlO P w d as st)
  rc : RecsAt H as st
  nd : st.Nodup
  al : as.length = st.length
def rPlNotIn (P : Program) (w : World) : R2 := fun x y H Q => ∃ b d as st r, x = .ref b ∧ y = .ref d ∧ PlAt P w H d as st ∧ RecAt H b r ∧ Q (.bl (decide (r ∉ st))) H
def rPlGet (P : Program) (w : World) : R2 := fun x y H Q => ∃ b d as st r i, x = .ref d ∧ y = .ref b ∧ PlAt P w H d as st ∧ RecAt H b r ∧ st[i]? = some r ∧ Q (.int ((i : Nat) : Int)) H
def rPlSet (P : Program) (w : World) : V → V → V → Hp → (Hp → Prop) → Prop := fun x y v H Q => ∃ b d as st r, x = .ref d ∧ y = .ref b ∧ v = .int ((st.length : Nat) : Int) ∧ PlAt P w H d as st ∧ RecAt H b r ∧ r ∉ st ∧ st.length < sizeLine ∧ Q (upd H d (PlO P w d (as ++ [b]) (st ++ [r])))
section
variable {X : Cx}
theorem room_nested (hu : X.A.units + 10 < cLine) : (nestedKind X.prog X.w).room X.A.in1 := by
  show X.A.units + 1 + 8 < cLine
  omega
theorem op_plNotIn (hu : X.A.units + 10 < cLine) : OpR X (compareOp .NotIn) (rPlNotIn X.prog X.w) := by
  intro pins s σ H x y v u Q I rx ry h
  obtain ⟨b, d, as, st, r, rfl, rfl, D, hb, q⟩ := h
  cases rx
  cases ry
  obtain ⟨h1, h2, xs, h3, h4, h5⟩ := pl_dict I.hok D.dc D.rc D.nd
  refine wpAny_notIn_heap (room_nested hu) (key_is I.hok hb) h1 h4 ?_
  refine ⟨.bl (decide (r ∉ st)), H, I.tok _, ?_, q⟩
  by_cases hr : r ∈ st
  · obtain ⟨i, hi⟩ := List.mem_iff_getElem?.mp hr
    obtain ⟨a, ha, _⟩ := D.rc i r hi
    obtain ⟨t, ht⟩ := h5 i r a hi ha
    obtain ⟨_, _, _, _, _, _, _, _, nd⟩ := h4
    rw [atKey_of_get nd ht, decide_eq_false (fun z => z hr)]
    rfl
  · rw [rec_of_key h3 h2 h5 hr, decide_eq_true hr]
    rfl
theorem pe_plGet {o i : Expr} {pos : Pos} {to ti : TE} (hu : X.A.units + 10 < cLine) (ho : PE X o to) (hi : PE X i ti) (hs : NoSl i := by exact fun _ _ => rfl) : PE X (.Subscript o i pos) (tOp (rPlGet X.prog X.w) to ti) := by
  refine ⟨fun pins s σ H Q I h => ?_⟩
  refine subD_of PySem.F.slot_dict_getitem.lookup hs (thn (ho.run pins s σ H _ I h) fun u s1 ⟨x, H1, I1, rx, q1⟩ => thn (hi.run pins s1 σ H1 _ I1 q1) fun iv s2 ⟨y, H2, I2, ry, q2⟩ => ?_)
  obtain ⟨b, d, as, st, r, j, rfl, rfl, D, hb, hj, q⟩ := q2
  cases rx
  cases ry
  obtain ⟨h1, h2, xs, h3, h4, h5⟩ := pl_dict I2.hok D.dc D.rc D.nd
  obtain ⟨a, ha, _⟩ := D.rc j r hj
  obtain ⟨t, ht⟩ := h5 j r a hj ha
  obtain ⟨_, _, _, _, _, _, _, _, nd⟩ := id h4
  exact ⟨h4.typeIs, wpAny_getItem_heap (room_nested hu) (key_is I2.hok hb) h4 (atKey_of_get nd ht) ⟨.int (j : Int), H2, I2.tok _, ⟨t, rfl⟩, q⟩⟩
theorem set_pl (hu : X.A.units + 10 < cLine) : PSet X (rPlSet X.prog X.w) := by
  intro pins s σ H o i v ov iv u Q I ro ri rv h
  obtain ⟨b, d, as, st, r, rfl, rfl, rfl, D, hb, hn, hz, q⟩ := h
  cases ro
  cases ri
  obtain ⟨tv, rfl⟩ := rv
  obtain ⟨h1, h2, xs, h3, h4, h5⟩ := pl_dict I.hok D.dc D.rc D.nd
  have e0 := rec_of_key h3 h2 h5 hn
  refine wpAny_setItem_heap (hsz := by omega) (room_nested hu) (key_is I.hok hb) h4 fun h' dd hs => ?_
  rw [storedH_new e0] at dd
  obtain ⟨ob, es, ep, f1, f2, f3, f4, f5, f6⟩ := dd
  refine ⟨_, I.write (x := d) (e := d) (by rw [D.dc]; exact True.intro) (.inl rfl) (fun c q hc z => (hs.2 c hc).trans z) ⟨ob, f1⟩ (plO_obj ⟨h1, ?_, _, ob, es, ep, ?_, ?_, f1, f2, f3, f4⟩), q⟩
  · rw [List.length_append, List.length_append, h2]; rfl
  · rw [List.length_append, List.length_append, h3]; rfl
  · intro j r' a' e1 e2
    by_cases hj : j < st.length
    · rw [List.getElem?_append_left hj] at e1
      rw [List.getElem?_append_left (by omega)] at e2
      obtain ⟨t, ht⟩ := h5 j r' a' e1 e2
      exact ⟨t, by rw [List.getElem?_append_left (by omega)]; exact ht⟩
    · have hj2 : j = st.length := by
        have := (List.getElem?_eq_some_iff.mp e1).1
        rw [List.length_append, List.length_singleton] at this; omega
      subst hj2
      rw [List.getElem?_append_right (Nat.le_refl _), Nat.sub_self] at e1
      rw [List.getElem?_append_right (by omega), h2, Nat.sub_self] at e2
      have e1' : r = r' := by simpa using e1
      have e2' : b = a' := by simpa using e2
      subst e1' e2'
      exact ⟨tv, by rw [List.getElem?_append_right (by omega), h3, Nat.sub_self]; rfl⟩
/-- {} as the dict of no places -/
def tPlNew (P : Program) (w : World) : TE := fun _ H Q => ∀ p, H p = none → Q (.ref p) (upd H p (PlO P w p [] []))
theorem pe_plNew {pos : Pos} : PE X (.Dict [] [] pos) (tPlNew X.prog X.w) := ⟨fun pins s σ H Q I h =>
  wpAny_Dict_empty ⟨.ref s.heap.objs.size, _, I.laid (a := s.heap.objs.size) (o := PlO X.prog X.w s.heap.objs.size [] []) (t' := s.toks) (fun _ _ q => Heap.get?_push_of_some _ q) (Nat.le_refl _)
    (plO_obj ⟨beq_eq_false_iff_ne.mpr (Ne.symm (Nat.ne_of_lt I.big)), rfl, [], _, #[], 0, rfl, (fun i r a e => by simp at e), Heap.get?_push_size _ rfl, ⟨rfl, rfl, rfl⟩, rfl, rfl⟩), rfl, h _ (I.hok.fresh (Nat.le_refl _))⟩⟩
end
/-! ### what a piece of the run keeps: all but the lists (dicts) of ex and the tables of code objects -/
theorem code_ne_pl {c d : Addr} {q : Str} {P : Program} {w : World} {as : List Addr} {st : Sto} : LamX.CodeO c q ≠ PlO P w d as st := fun e => by
  unfold LamX.CodeO PlO at e
  injection e with e
  have f := congrFun e ⟨Array.replicate (c + 1) { cls := .none, data := .fields #[.none, .str q 0] }, {}⟩
  have g : (Heap.mk (Array.replicate (c + 1) { cls := .none, data := .fields #[.none, .str q 0] }) {}).get? c = some { cls := .none, data := .fields #[.none, .str q 0] } := by
    unfold Heap.get?
    simp
  have h := f.mp ⟨_, _, 0, g, rfl, rfl⟩
  obtain ⟨_, _, xs, o, es, ep, _, _, h5, _, h7, _⟩ := h
  unfold Heap.get? at h5
  by_cases hd : d < c + 1
  · simp [hd] at h5
    rw [← h5] at h7
    cases h7
  · simp [hd] at h5
/-- where the table of marked's own code objects stands -/
class TabP where
  pt : Addr
def qR : Str := "Store.marked.<locals>.rule"
def TabR [TabP] (H : Hp) : Prop := NdefX.TabsN [(TabP.pt, fun _ _ => qR)] H
variable [TabP]
structure Kp (ex : List Addr) (H H' : Hp) : Prop where
  keep : ∀ b o, H b = some o → b ∉ ex → (∀ ps, o ≠ .tbl ps) → H' b = some o
  tup : ∀ b xs, H b = some (.tup xs) → H' b = some (.tup xs)
  ins : ∀ b C dx fs, H b = some (.ins C dx fs) → H' b = some (.ins C dx fs)
  fr : ∀ b, H' b = none → H b = none
  tabs : TabR H → TabR H'
theorem Kp.refl (ex : List Addr) (H : Hp) : Kp ex H H := ⟨fun _ _ e _ _ => e, fun _ _ e => e, fun _ _ _ _ e => e, fun _ e => e, fun t => t⟩
theorem Kp.trans {ex : List Addr} {H H1 H2 : Hp} (a : Kp ex H H1) (b : Kp ex H1 H2) : Kp ex H H2 :=
  ⟨fun c o e n t => b.keep c o (a.keep c o e n t) n t, fun c xs e => b.tup c xs (a.tup c xs e), fun c C dx fs e => b.ins c C dx fs (a.ins c C dx fs e), fun c e => a.fr c (b.fr c e), fun t => b.tabs (a.tabs t)⟩
theorem Kp.mono {ex ex' : List Addr} {H H' : Hp} (a : Kp ex H H') (h : ∀ b ∈ ex, b ∈ ex') : Kp ex' H H' :=
  ⟨fun c o e n t => a.keep c o e (fun z => n (h c z)) t, a.tup, a.ins, a.fr, a.tabs⟩
theorem Kp.new {ex : List Addr} {H : Hp} {p : Addr} (h : H p = none) (o : HO) : Kp ex H (upd H p o) :=
  ⟨fun _ _ e _ _ => by rw [upd_ne (ne_of_none e h)]; exact e, fun _ _ e => by rw [upd_ne (ne_of_none e h)]; exact e, fun _ _ _ _ e => by rw [upd_ne (ne_of_none e h)]; exact e,
    fun b e => by
      by_cases z : b = p
      · rw [z]; exact h
      · rw [upd_ne z] at e; exact e,
    fun t => NdefX.TabsN.ext t fun b o e => by rw [upd_ne (ne_of_none e h)]; exact e⟩
/-- the tables stand when an object that is no table and no code object is written -/
theorem tabs_wr {H : Hp} {p : Addr} {u : HO} (h : H p = some u) (h1 : ∀ ps, u ≠ .tbl ps) (h2 : ∀ c q, u ≠ LamX.CodeO c q) (o : HO) (T : List NdefX.NTab) (t : NdefX.TabsN T H) : NdefX.TabsN T (upd H p o) := fun x hx => by
  obtain ⟨ps, a1, a2, a3⟩ := t x hx
  refine ⟨ps, by rw [upd_ne (ne_of a1 h fun z => h1 _ z.symm)]; exact a1, a2, fun pos cv hc => ?_⟩
  obtain ⟨c, c1, c2⟩ := a3 pos cv hc
  exact ⟨c, c1, by rw [upd_ne (ne_of c2 h fun z => h2 _ _ z.symm)]; exact c2⟩
theorem lst_ne_code (xs : List V) (c : Addr) (q : Str) : HO.lst xs ≠ LamX.CodeO c q := fun z => by unfold LamX.CodeO at z; cases z
theorem Kp.wrL {ex : List Addr} {H : Hp} {p : Addr} {xs : List V} (h : H p = some (.lst xs)) (hp : p ∈ ex) (o : HO) : Kp ex H (upd H p o) :=
  ⟨fun _ _ e n _ => by rw [upd_ne (fun z => n (by rw [z]; exact hp))]; exact e, fun _ _ e => by rw [upd_ne (ne_of e h (fun z => nomatch z))]; exact e,
    fun _ _ _ _ e => by rw [upd_ne (ne_of e h (fun z => nomatch z))]; exact e,
    fun b e => by
      by_cases z : b = p
      · rw [z, upd_same] at e; cases e
      · rw [upd_ne z] at e; exact e,
    tabs_wr h (fun _ z => nomatch z) (lst_ne_code xs) o _⟩
theorem Kp.wrP {ex : List Addr} {H : Hp} {p d : Addr} {P : Program} {w : World} {as : List Addr} {st : Sto} (h : H p = some (PlO P w d as st)) (hp : p ∈ ex) (o : HO) : Kp ex H (upd H p o) :=
  ⟨fun _ _ e n _ => by rw [upd_ne (fun z => n (by rw [z]; exact hp))]; exact e, fun _ _ e => by rw [upd_ne (ne_of e h (fun z => by unfold PlO at z; cases z))]; exact e,
    fun _ _ _ _ e => by rw [upd_ne (ne_of e h (fun z => by unfold PlO at z; cases z))]; exact e,
    fun b e => by
      by_cases z : b = p
      · rw [z, upd_same] at e; cases e
      · rw [upd_ne z] at e; exact e,
    tabs_wr h (fun _ z => by unfold PlO at z; cases z) (fun _ _ z => code_ne_pl z.symm) o _⟩
/-- a list of the run's own that was laid within: it may be changed there -/
theorem Kp.wrN {ex : List Addr} {H H1 : Hp} {p : Addr} {xs : List V} (k : Kp ex H H1) (h : H p = none) (h1 : H1 p = some (.lst xs)) (o : HO) : Kp ex H (upd H1 p o) :=
  ⟨fun c u e n t => by rw [upd_ne (ne_of_none e h)]; exact k.keep c u e n t, fun c xs e => by rw [upd_ne (ne_of_none e h)]; exact k.tup c xs e,
    fun c C dx fs e => by rw [upd_ne (ne_of_none e h)]; exact k.ins c C dx fs e,
    fun b e => by
      by_cases z : b = p
      · rw [z]; exact h
      · rw [upd_ne z] at e; exact k.fr b e,
    fun t => tabs_wr h1 (fun _ z => nomatch z) (lst_ne_code xs) o _ (k.tabs t)⟩
theorem Kp.lst {ex : List Addr} {H H' : Hp} (k : Kp ex H H') {b : Addr} {xs : List V} (h : H b = some (.lst xs)) (n : b ∉ ex) : H' b = some (.lst xs) := k.keep b _ h n (fun _ z => nomatch z)
theorem Kp.of0 {ex : List Addr} {H H' : Hp} (a : Kp [] H H') : Kp ex H H' := a.mono fun _ z => nomatch z

theorem RecAt.kp {ex : List Addr} {H H' : Hp} {a : Addr} {r : Rec} (h : RecAt H a r) (k : Kp ex H H') : RecAt H' a r := by
  cases r with
  | leaf p q => obtain ⟨t, h1, h2⟩ := h; exact ⟨t, k.tup _ _ h1, k.tup _ _ h2⟩
  | fork l ks => obtain ⟨t, h1, h2⟩ := h; exact ⟨t, k.tup _ _ h1, k.tup _ _ h2⟩
theorem RecsAt.kp {as : List Addr} {st : Sto} {ex : List Addr} {H H' : Hp} (h : RecsAt H as st) (k : Kp ex H H') : RecsAt H' as st := fun i r e =>
  let ⟨a, h1, h2⟩ := h i r e
  ⟨a, h1, h2.kp k⟩
end Lots
end
section
set_option Elab.async false
set_option maxRecDepth 100000
set_option maxHeartbeats 4000000
namespace Lots
open PySem PySem.Spec PyProof.Rows L2

/-! ### len(set(xs)) of any ints -/
def nSet (ns : List Int) : Nat := (PyProof.Rows.firstMet (fun i => ns.getD i 0) ns.length).length
theorem fm_all (f : Nat → Int) (a : Int) : ∀ n, 0 < n → (∀ i, i < n → f i = a) → PyProof.Rows.firstMet f n = [a]
  | 0, h, _ => absurd h (Nat.lt_irrefl _)
  | 1, _, h => by
    rw [PyProof.Rows.firstMet_succ, PyProof.Rows.firstMet_zero, h 0 (by omega)]
    rfl
  | n + 2, _, h => by
    rw [PyProof.Rows.firstMet_succ, fm_all f a (n + 1) (by omega) (fun i hi => h i (by omega)), h (n + 1) (by omega)]
    simp [PyProof.Rows.step_dedup]
theorem fm_mem (f : Nat → Int) : ∀ n i, i < n → f i ∈ PyProof.Rows.firstMet f n
  | 0, i, h => absurd h (Nat.not_lt_zero _)
  | n + 1, i, h => by
    rw [PyProof.Rows.firstMet_succ]
    unfold PyProof.Rows.step_dedup
    by_cases hi : i < n
    · have ih := fm_mem f n i hi
      split
      · exact ih
      · exact List.mem_append_left _ ih
    · have e : i = n := by omega
      subst e
      split
      · rename_i hb
        obtain ⟨y, hy, ey⟩ := List.any_eq_true.mp hb
        rw [← eq_of_beq ey]
        exact hy
      · exact List.mem_append_right _ (List.mem_singleton.mpr rfl)
theorem nSet_one {ns : List Int} : nSet ns = 1 ↔ 0 < ns.length ∧ ∃ a, ∀ k ∈ ns, k = a := by
  unfold nSet
  constructor
  · intro h
    have h0 : 0 < ns.length := by
      rcases Nat.eq_zero_or_pos ns.length with z | z
      · rw [z, PyProof.Rows.firstMet_zero] at h
        cases h
      · exact z
    refine ⟨h0, ?_⟩
    obtain ⟨a, ha⟩ := List.length_eq_one_iff.mp h
    refine ⟨a, fun k hk => ?_⟩
    obtain ⟨i, hi, ei⟩ := List.getElem_of_mem hk
    have m := fm_mem (fun i => ns.getD i 0) ns.length i hi
    rw [ha, List.mem_singleton] at m
    have e : ns.getD i 0 = ns[i] := by
      rw [List.getD_eq_getElem?_getD, List.getElem?_eq_getElem hi] <;> rfl
    rw [← ei, ← e]
    exact m
  · rintro ⟨h0, a, ha⟩
    rw [fm_all _ a ns.length h0 fun i hi => ?_]
    · rfl
    · have e : ns.getD i 0 = ns[i] := by
        rw [List.getD_eq_getElem?_getD, List.getElem?_eq_getElem hi] <;> rfl
      show ns.getD i 0 = a
      rw [e]
      exact ha _ (List.getElem_mem hi)
def tNSet (K : PySem.W.Frag) (ta : TE) : TE := fun σ H Q => ta σ H fun x H1 => ∃ (l : Addr) (ns : List Int), x = .ref l ∧ SqL K H1 l (ns.map V.int) ∧ ns.length ≤ 4000 ∧ Q (.int ((nSet ns : Nat) : Int)) H1
theorem pe_nSet {X : Cx} {a : Expr} {ta : TE} {p p2 q pos : Pos} (hg : Gl X "len") (hm : X.mg "len" = none) (hg2 : Gl X "set") (hm2 : X.mg "set" = none) (ha : PE X a ta) (hc : X.calm = true := by rfl)
    (na : starEach [a] X.env = (false, eval a X.env) :: starEach [] X.env := by rfl) : PE X (.Call (.Name "len" p) [.Call (.Name "set" p2) [a] [] q] [] pos) (tNSet X.K ta) := by
  refine ⟨fun pins s σ H Q I h => ?_⟩
  refine Call_ (ld_blt I hg hm boot_len (PyProof.Rows.callWith_builtin1 (PyProof.Rows.args_cons ?_ rfl) rfl rfl))
  refine Call_ (ld_blt I hg2 hm2 boot_set (PyProof.Rows.callWith_type1 (PyProof.Rows.args_cons (thn (ha.run pins s σ H _ I h) fun v s1 ⟨x, H1, I1, r1, q1⟩ => PyProof.Rows.args_nil ?_) na) na rfl))
  obtain ⟨l, ns, rfl, hq, hl, q1⟩ := q1
  cases r1
  obtain ⟨its, r, pl, hz⟩ := I1.list hq
  have hlen : its.toArray.size = ns.length := by rw [List.size_toArray, ← r.length, List.length_map]
  refine call_set_list (I1.ok.hd hc) pl.isList (by simpa using RZ.intsAre_vals r) (by rw [hlen]; unfold scanBound; omega) fun h' tk hS hk => PyProof.Rows.args_nil ?_
  rw [hlen] at hS
  obtain ⟨o, es, ep, t, ho, hex, hd, _, _, _, hf, hn⟩ := hS
  have I2 : Inv X pins σ H1 { s1 with heap := h', toks := tk } := I1.kept fun b o e => hk b o (Heap.lt_size e) e
  have hle := PyProof.Rows.firstMet_length_le (fun i => ns.getD i 0) ns.length
  exact call_len_set ho hex hd hf (by rw [hn] <;> omega) ⟨.int ((nSet ns : Nat) : Int), H1, I2.tok _, ⟨_, by rw [hn]; rfl⟩, q1⟩

/-! ### list(reversed(xs)) -/
section
variable {prog : Program} {w : World} {A : Around} {E : Value → Shared → Prop} {s : Shared}
theorem call_list_rev {it l : Addr} {items : Array Value} {Q : Value → Shared → Prop} (hh : A.handled = none) (hit : s.heap.IsRevIter it l ((items.size : Int) - 1)) (hl : s.heap.IsList l items) (hne : l ≠ it) (hn : items.size ≤ sizeLine)
    (hQ : ∀ (h' : Heap) (tk : Nat) (acc : Array Value) (c' : Nat), (∀ b o, b ≠ it → s.heap.get? b = some o → h'.get? b = some o) → h'.get? s.heap.objs.size = some { cls := .type "list", dict := none, data := .seq acc c', slots := #[] } →
      ItemsOf (fun i v => items[items.size - 1 - i]? = some v) acc items.size → Q (.ref s.heap.objs.size) { s with heap := h', toks := tk }) :
    wpAny (model prog w) A (call (.type "list") [.ref it]) Q E s := by
  refine callType_codes (Q₁ := fun obj s₁ => obj = .ref s.heap.objs.size ∧ s₁ = { s with heap := s.heap.push { cls := .type "list", data := .seq #[] } }) PySem.F.called_list (PySem.F.typeCall_list_1 _) PySem.F.entry_list_init
    (code_list_new _ ⟨rfl, rfl⟩) fun obj s₁ h₁ => ?_
  obtain ⟨rfl, rfl⟩ := h₁
  obtain ⟨oi, hoi, _⟩ := id hit
  obtain ⟨ol, hol, _⟩ := id hl
  have hSi : s.heap.objs.size ≠ it := Nat.ne_of_gt (Heap.lt_size hoi)
  have hSl : s.heap.objs.size ≠ l := Nat.ne_of_gt (Heap.lt_size hol)
  have hSf : s.heap.objs.size ∉ [it, l] := by simp only [List.mem_cons, List.not_mem_nil, or_false, not_or]; exact ⟨hSi, hSl⟩
  have W := (Walks.listRev (prog := prog) (w := w) (A := A.in1.in1) hh it l hne items).toS
  generalize hs1 : ({ s with heap := s.heap.push { cls := .type "list", data := .seq #[] } } : Shared) = s1
  have hS : s1.heap.get? s.heap.objs.size = some { cls := .type "list", data := .seq #[] } := by
    rw [← hs1]
    exact Heap.get?_push_size _ rfl
  have k1 : ∀ b o, s.heap.get? b = some o → s1.heap.get? b = some o := fun b o e => by
    rw [← hs1]
    exact Heap.get?_push_of_some _ e
  refine ⟨⟨_, hS, rfl⟩, PySem.F.args_list_init_2 _ _, ?_⟩
  show wpAny _ _ (do let old ← Builtin.List.listItems (.ref s.heap.objs.size); Builtin.List.listUpdate (.ref s.heap.objs.size) (fun _ => #[]); letGo old.toList.reverse; Builtin.List.listExtendWith (.ref s.heap.objs.size) (.ref it) .none) _ _ s1
  refine wpAny_bind ?_
  unfold Builtin.List.listItems
  refine wpAny_bind (wpAny_seqItems hS rfl (wpAny_pure ?_))
  show wpAny _ _ (updateSeq s.heap.objs.size (fun _ => #[]) >>= fun _ => letGo (#[] : Array Value).toList.reverse >>= fun _ => Builtin.List.listExtendWith (.ref s.heap.objs.size) (.ref it) .none) _ _ s1
  refine wpAny_bind (wpAny_updateSeq hS rfl ?_)
  have hS₂ := Heap.get?_update_self (Obj.mapSeq (fun _ => (#[] : Array Value))) hS rfl
  have oth : ∀ b o, b ≠ s.heap.objs.size → s1.heap.get? b = some o → (s1.heap.update s.heap.objs.size (Obj.mapSeq (fun _ => (#[] : Array Value)))).get? b = some o :=
    fun b o hb e => (Heap.get?_update_other _ _ (Ne.symm hb)).trans e
  refine wpAny_bind (wpAny_letGo ?_)
  generalize hs2 : ({ s1 with heap := s1.heap.update s.heap.objs.size (Obj.mapSeq (fun _ => (#[] : Array Value))) } : Shared) = s2
  have hS2 : s2.heap.get? s.heap.objs.size = some (Obj.mapSeq (fun _ => (#[] : Array Value)) { cls := .type "list", data := .seq #[] }) := by
    rw [← hs2]
    exact hS₂
  have k2 : ∀ b o, s.heap.get? b = some o → s2.heap.get? b = some o := fun b o e => by
    rw [← hs2]
    exact oth b o (Nat.ne_of_lt (Heap.lt_size e)) (k1 b o e)
  have hit1 : s2.heap.IsRevIter it l ((items.size : Int) - 1) := hit.at fun o e => k2 _ _ e
  have hl1 : s2.heap.IsList l items := by
    obtain ⟨o, e1, e2⟩ := hl
    exact ⟨o, k2 _ _ e1, e2⟩
  have hT : s2.TypeIs (.ref it) "list_reverseiterator" := hit1.typeIs
  have h1 : Builtin.List.listSameRef (.ref s.heap.objs.size) (.ref it) = false := by simp [Builtin.List.listSameRef, hSi]
  unfold Builtin.List.listExtendWith
  refine wpAny_bind (wpAny_typeOf hT ?_)
  rw [if_neg (by rw [h1]; decide)]
  refine wpAny_bind (wpAny_pyIter_revIter hit1 ?_)
  refine wpAny_bind (wpAny_holding ?_)
  unfold Builtin.List.listLengthHint
  refine wpAny_bind (wpAny_specialOf hT RT.nolen_lri ?_)
  show wpAny _ _ (specialOf (Value.ref it) (Str.ofString "__length_hint__") >>= _) _ _ _
  refine wpAny_bind (wpAny_specialOf hT RT.hint_lri ?_)
  generalize hid : ("list_reverseiterator.__length_hint__" : String) = id0
  wp_delta
  rw [show splitId id0 = some ("list_reverseiterator", "__length_hint__") from by subst hid; decide +kernel]
  subst hid
  refine wpAny_bind (wpAny_isInstance (b := true) hT (by rw [isSubtype_type]; kernel_rfl) ?_)
  refine wpAny_pure ?_
  rw [if_neg (by decide)]
  have e0 : ((items.size : Nat) : Int) - 1 - ((0 : Nat) : Int) = (items.size : Int) - 1 := by omega
  refine wpAny_pure ⟨plainId_quiet F.plain_extend_loop _, codeAny_extend_loopS W hn _ hSf _ items.size 0 _ _ _ rfl (Nat.zero_le _) ⟨Nat.zero_le _, by rw [e0]; exact hit1, hl1⟩ hS2 (ItemsOf.nil _) fun s' acc' c' hm hS' hacc => ?_⟩
  rw [Moved.eq_with hm]
  have fin := hQ s'.heap s'.toks acc' c' (fun b o hb e => hm.heap b o (fun hmem => ?_) (k2 b o e)) hS' hacc
  · subst hs1 hs2
    exact ⟨rfl, fin⟩
  · rcases List.mem_cons.mp hmem with e' | hmem
    · exact absurd (Heap.lt_size e) (by rw [e']; exact Nat.lt_irrefl _)
    · exact hb (List.mem_singleton.mp hmem)
end
def tListRev (K : PySem.W.Frag) (te : TE) : TE := fun σ H Q => te σ H fun v H1 => ∃ (a : Addr) (xs : List V), v = .ref a ∧ SqL K H1 a xs ∧ ∀ q, H1 q = none → Q (.ref q) (upd H1 q (.lst xs.reverse))
theorem pe_listRev {X : Cx} {e : Expr} {te : TE} {p p2 pos pos2 : Pos} (hc : X.calm = true) (hg : Gl X "list") (hm : X.mg "list" = none) (hg2 : Gl X "reversed") (hm2 : X.mg "reversed" = none) (he : PE X e te)
    (hs : starEach [e] X.env = (false, eval e X.env) :: starEach [] X.env := by rfl)
    (hs2 : starEach [.Call (.Name "reversed" p2) [e] [] pos2] X.env = (false, eval (.Call (.Name "reversed" p2) [e] [] pos2) X.env) :: starEach [] X.env := by rfl) :
    PE X (.Call (.Name "list" p) [.Call (.Name "reversed" p2) [e] [] pos2] [] pos) (tListRev X.K te) := by
  refine ⟨fun pins s σ H Q I h => ?_⟩
  refine Call_ (ld_blt I hg hm (by decide +kernel : bootBuiltins "list" = some (.type "list")) (PyProof.Rows.callWith_type1 (args_cons (Call_ (ld_blt I hg2 hm2 PyProof.Rows.boot_reversed (PyProof.Rows.callWith_type1 (args_cons (thn (he.run pins s σ H _ I h) fun u s1 ⟨v, H1, I1, r1, q1⟩ => args_nil ?_) hs) hs rfl))) hs2) hs2 rfl))
  obtain ⟨a, xs, ev, hq, q⟩ := q1
  subst ev
  obtain rfl : u = Value.ref a := r1
  obtain ⟨its, rv, p', hz⟩ := I1.list hq
  refine call_reversed_list p'.isList (args_nil ?_)
  have k0 : ∀ b o, s1.heap.get? b = some o → (s1.heap.push (revObj a ((its.toArray.size : Int) - 1))).get? b = some o := fun b o e => Heap.get?_push_of_some _ e
  have I2 : Inv X pins σ H1 { s1 with heap := s1.heap.push (revObj a ((its.toArray.size : Int) - 1)) } := I1.kept (t' := s1.toks) k0
  obtain ⟨f0, f1, f2, f3, f4, f5⟩ := I1.fpOk (H' := H1) (b := s1.heap.objs.size) (Nat.le_refl _) (I1.hok.fresh (Nat.le_refl _))
  have hl := p'.isList
  obtain ⟨ol, hol, _⟩ := id hl
  have hne : a ≠ s1.heap.objs.size := Nat.ne_of_lt (Heap.lt_size hol)
  have hn : its.toArray.size ≤ sizeLine := by rw [List.size_toArray, ← rv.length]; exact hz
  refine call_list_rev (s := { s1 with heap := s1.heap.push (revObj a ((its.toArray.size : Int) - 1)) }) (I1.ok.hd hc) ⟨_, Heap.get?_push_size _ rfl, rfl, rfl⟩ (hl.push _) hne hn fun h' tk acc c' hk hL hi => ?_
  generalize hs2 : ({ s1 with heap := s1.heap.push (revObj a ((its.toArray.size : Int) - 1)) } : Shared) = s2 at I2 hk hL
  have fr : H1 s2.heap.objs.size = none := I2.hok.fresh (Nat.le_refl _)
  -- the iterator first, then the list
  have I3 : Inv X pins σ (upd H1 s2.heap.objs.size (.lst xs.reverse)) { s2 with heap := h', toks := tk } := by
    refine I2.step (g' := s2.gens) (d' := s2.drawn) (t' := tk) (ch := [s1.heap.objs.size]) (fun b hb => ?_) (fun b o _ _ hc' e _ => hk b o (fun z => hc' (by simp [z])) e) (fun b o _ _ hc' e _ => ⟨o.slots, hk b o (fun z => hc' (by simp [z])) e⟩)
      (fun b o _ e n => ?_) (fun b o hc' e => ⟨o, hk b o (fun z => hc' (by simp [z])) e⟩) (fun b ys e => ?_) (fun b o u e => ?_) (fun b ps e => ⟨#[], ?_⟩) (fun m hm' => ?_) (fun b u e => ?_) I2.bare
    · have e : b = s1.heap.objs.size := by simpa using hb
      subst e
      exact ⟨f3, f1, f4, f5⟩
    · rw [upd_ne (Nat.ne_of_lt (Heap.lt_size e))]
      exact n
    · rw [upd_ne (ne_of_none e fr)]
      exact e
    · rw [upd_ne (ne_of_none e fr)]
      exact e
    · rw [upd_ne (ne_of_none e fr), e]
      simp
    · obtain ⟨o, es, ep, ho, r⟩ := hm'
      exact ⟨o, es, ep, hk _ o (Ne.symm f1) ho, r⟩
    · have nit : ∀ c v, H1 c = some v → c ≠ s1.heap.objs.size := fun c v q z => by rw [z, f0] at q; cases q
      by_cases hb : b = s2.heap.objs.size
      · rw [hb, upd_same] at e
        cases e
        rw [hb]
        exact ⟨by rw [List.length_reverse]; exact hz, acc.toList, c', RT.vals_rev rv hi, by rw [Array.toArray_toList]; exact hL⟩
      · rw [upd_ne hb] at e
        refine (I2.hok b u e).stay (fun c v hc' q => hk c v ?_ q) (fun c q => ?_) fun c ys q => ?_
        · rcases hc' with z | z
          · rw [z]; exact nit b u e
          · exact nit c _ z
        · rw [upd_ne (ne_of_none q fr)]
          exact q
        · rw [upd_ne (ne_of_none q fr)]
          exact q
  subst hs2
  exact ⟨.ref _, _, I3, rfl, q _ fr⟩
end Lots
end
section
set_option Elab.async false
set_option maxRecDepth 100000
set_option maxHeartbeats 4000000
namespace Lots
open PySem PySem.Spec PyProof.Rows L2

/-! ### the text by places -/
def top (i : Nat) : Stmt := PySem.Challenge.pw_lots_k42_fixed_marked_point.main.body.getD i (.Pass ⟨0, 0, 0, 0⟩)
abbrev sDivisor : Stmt := top 5
abbrev sFraction : Stmt := top 6
abbrev sStart : Stmt := top 8
abbrev sPlace : Stmt := top 9
abbrev sWorth : Stmt := top 10
abbrev sHolds : Stmt := top 11
abbrev sLevels : Stmt := top 13
abbrev sInit : Stmt := inClass (top 14) 0
abbrev sNodeOf : Stmt := inClass (top 14) 1
abbrev sLeaf : Stmt := inClass (top 14) 2
abbrev sFork : Stmt := inClass (top 14) 3
abbrev sValueAt : Stmt := inClass (top 14) 5
abbrev sLevelOf : Stmt := inClass (top 14) 6
abbrev sFixed : Stmt := inClass (top 14) 12
abbrev sSpread : Stmt := inClass (top 14) 13
abbrev sByOps : Stmt := inClass (top 14) 14
abbrev sMarked : Stmt := inClass (top 14) 15
abbrev sPoint : Stmt := inClass (top 14) 16
abbrev sTake : Stmt := top 16
abbrev sWord : Stmt := top 17
abbrev sNames : Stmt := top 18
abbrev sBoxes : Stmt := top 19
abbrev sState : Stmt := top 20
abbrev sOperand : Stmt := top 21
abbrev sTest : Stmt := top 22
abbrev sLow : Stmt := top 23
abbrev sRatio : Stmt := top 24
abbrev sSame : Stmt := top 25
abbrev sWhole : Stmt := top 26
abbrev sStates : Stmt := top 27
abbrev sTable : Stmt := top 28
abbrev sNode : Stmt := top 29
abbrev sTells : Stmt := top 30
abbrev sLWorth : Stmt := top 31
abbrev sMark : Stmt := top 32
abbrev sHeld : Stmt := top 33
abbrev sFixes : Stmt := top 34
abbrev sLaw : Stmt := top 35

abbrev sRule : Stmt := (defBody sMarked).getD 0 (.Pass ⟨0, 0, 0, 0⟩)
/-! ### what the top has left of a def, of a method -/
structure GF (K : PySem.W.Frag) (mg : Str → Option Value) (x : Str) (st : Stmt) (ps : List Str) : Type where
  f : Addr
  fd : FuncData
  F : Fun K x x st f fd
  b : Binds K fd ps []
  m : mg x = some (.ref f)
structure MF (K : PySem.W.Frag) (C : Addr) (x q : Str) (st : Stmt) (ps : List Str) : Type where
  f : Addr
  fd : FuncData
  F : Fun K x q st f fd
  b : Binds K fd ps []
  m : Meth K C x f
/-- a def whose code object is known -/
structure FunC (K : PySem.W.Frag) (x qual : Str) (st : Stmt) (f : Addr) (fd : FuncData) (c : Addr) : Prop where
  ex : ∃ (oc : Value) (od : Option Addr) (kV doc pm : Value) (an : Option Addr) (ct : Value) (osl : Array (Option Value)),
    fd = PySem.W.fnOf x qual (defArgs st) (defBody st) (defScope st) .none kV doc pm an (.ref c) ct ∧ K.lookup f = some ⟨oc, od, .func fd, osl⟩ ∧ PySem.W.codeIn K (.ref c) qual = true
theorem FunC.ok {P : Program} {w : World} {K : PySem.W.Frag} {mg : Str → Option Value} {base : Heap} {x qual : Str} {st : Stmt} {f c : Addr} {fd : FuncData} {N ps : List Str} {k : Nat} {sp : Sp} (F : FunC K x qual st f fd c) (S : FnScope N ps (defScope st)) (len : ∀ vs H Q E, sp vs H Q E → vs.length = ps.length)
    (hbody : ∀ (A : Around) (outer : List Env) (s : Shared) (H : Hp) (vs : List V) (Q : VK) (E : XK), Room k (A.deeper (envOfC qual (defScope st) s.heap.objs.size f (.ref c))) → sp vs H Q E →
      ∃ t, PSs (cxOf CX0 P w K mg base N qual (defScope st) f (.ref c) A outer s H E).nox (defBody st) t ∧ t { nx := fun _ H' => Q .non H', rt := Q } (start N vs) H) : FnOk P w K mg base CX0 (k + 1) f fd ps sp := by
  obtain ⟨oc, od, kV, doc, pm, an, ct, osl, rfl, lk, hcd⟩ := F.ex
  refine fn_of lk hcd S len fun A outer s H vs Q E hr hsp => ?_
  obtain ⟨t, h, q⟩ := hbody A outer s H vs Q E hr hsp
  exact ⟨t, h.nox, q⟩
structure Tx (K : PySem.W.Frag) (mg : Str → Option Value) : Type where
  C : Addr
  cl : Cls K C
  nB : NoAttr K C "boxes"
  nK : NoAttr K C "kept"
  nP : NoAttr K C "places"
  mgC : mg "Store" = some (.ref C)
  mks : PySem.W.makesIn K C = true
  kc : PySem.W.keepIn K (.ref C) = true
  len : mg "len" = none
  set : mg "set" = none
  tuple : mg "tuple" = none
  range : mg "range" = none
  abs : mg "abs" = none
  isi : mg "isinstance" = none
  str : mg "str" = none
  int : mg "int" = none
  bool : mg "bool" = none
  list : mg "list" = none
  all : mg "all" = none
  min : mg "min" = none
  rev : mg "reversed" = none
  divisor : GF K mg "divisor" sDivisor ["one", "other"]
  fraction : GF K mg "fraction" sFraction ["top", "bottom"]
  start : GF K mg "start_of" sStart ["boxes"]
  place : GF K mg "place_of" sPlace ["boxes", "name"]
  worth : GF K mg "worth" sWorth ["boxes", "state", "operand"]
  holds : GF K mg "holds" sHolds ["boxes", "state", "test"]
  levels : GF K mg "levels_of" sLevels ["boxes", "operands"]
  init : MF K C "__init__" "Store.__init__" sInit ["self", "boxes"]
  node_of : MF K C "node_of" "Store.node_of" sNodeOf ["self", "what"]
  leaf : MF K C "leaf" "Store.leaf" sLeaf ["self", "one"]
  fork : MF K C "fork" "Store.fork" sFork ["self", "level", "kids"]
  value_at : MF K C "value_at" "Store.value_at" sValueAt ["self", "node", "state"]
  level_of : MF K C "level_of" "Store.level_of" sLevelOf ["self", "node"]
  fixed : MF K C "fixed" "Store.fixed" sFixed ["self", "node", "level", "number"]
  spread : MF K C "spread" "Store.spread" sSpread ["self", "rule", "levels", "state"]
  byops : MF K C "by_operands" "Store.by_operands" sByOps ["self", "rule", "operands"]
  marked : MF K C "marked" "Store.marked" sMarked ["self", "test"]
  mcode : Addr
  markedC : FunC K "marked" "Store.marked" sMarked marked.f marked.fd mcode
  point : MF K C "point" "Store.point" sPoint ["self", "state"]
  take : GF K mg "_law_take" sTake ["_law_left", "_law_many"]
  word : GF K mg "_law_word" sWord ["_law_number", "_law_size"]
  names : GF K mg "_law_names" sNames ["_law_left", "_law_many"]
  lboxes : GF K mg "_law_boxes" sBoxes ["_law_left", "_law_most"]
  state : GF K mg "_law_state" sState ["_law_left", "_law_boxes_here"]
  operand : GF K mg "_law_operand" sOperand ["_law_left", "_law_boxes_here"]
  test : GF K mg "_law_test" sTest ["_law_left", "_law_boxes_here"]
  low : GF K mg "_law_low" sLow ["_law_top", "_law_bottom"]
  ratio : GF K mg "_law_ratio" sRatio ["_law_left"]
  same : GF K mg "_law_same" sSame ["_law_found", "_law_due"]
  whole : GF K mg "_law_whole" sWhole ["_law_found"]
  states : GF K mg "_law_states" sStates ["_law_boxes_here"]
  table : GF K mg "_law_table" sTable ["_law_left", "_law_boxes_here"]
  node : GF K mg "_law_node" sNode ["_law_store", "_law_boxes_here", "_law_level", "_law_table_here"]
  tells : GF K mg "_law_tells" sTells ["_law_store", "_law_boxes_here", "_law_node_here", "_law_table_here"]
  lworth : GF K mg "_law_worth" sLWorth ["_law_boxes_here", "_law_state_here", "_law_operand_here"]
  mark : GF K mg "_law_mark" sMark ["_law_boxes_here", "_law_state_here", "_law_test_here"]
  held : GF K mg "_law_held" sHeld ["_law_boxes_here", "_law_table_here", "_law_level", "_law_number"]
  fixes : GF K mg "_law_fixes" sFixes ["_law_left", "_law_store", "_law_boxes_here", "_law_node_here", "_law_table_here"]

/-! ### the data -/
variable [TabP]
abbrev vI (ns : List Nat) : List V := ns.map fun (k : Nat) => V.int (k : Int)
theorem kp_ : ¬ (("kept" : Str) = "places") := by decide +kernel
theorem bp_ : ¬ (("boxes" : Str) = "places") := by decide +kernel
theorem bk_ : ¬ (("boxes" : Str) = "kept") := by decide +kernel
def flds (b l d : Addr) : List (Str × V) := putF "places" (.ref d) (putF "kept" (.ref l) (putF "boxes" (.ref b) []))
theorem flds_boxes (b l d : Addr) : (flds b l d).lookup ("boxes" : Str) = some (.ref b) := by
  unfold flds
  rw [lookup_putF, if_neg bp_, lookup_putF, if_neg bk_, lookup_putF, if_pos rfl]
theorem flds_kept (b l d : Addr) : (flds b l d).lookup ("kept" : Str) = some (.ref l) := by
  unfold flds
  rw [lookup_putF, if_neg kp_, lookup_putF, if_pos rfl]
theorem flds_places (b l d : Addr) : (flds b l d).lookup ("places" : Str) = some (.ref d) := by
  unfold flds
  rw [lookup_putF, if_pos rfl]
theorem flds_no (b l d : Addr) {m : Str} (h1 : ¬ m = "places") (h2 : ¬ m = "kept") (h3 : ¬ m = "boxes") : (flds b l d).lookup m = none := by
  unfold flds
  rw [lookup_putF, if_neg h1, lookup_putF, if_neg h2, lookup_putF, if_neg h3]
  all_goals rfl
/-- a store's addresses, and its boxes -/
structure En where
  p : Addr
  lk : Addr
  d : Addr
  b : Addr
  bs : List (Str × Nat)
abbrev En.szs (e : En) : List Nat := e.bs.map (·.2)
abbrev En.ex (e : En) : List Addr := [e.lk, e.d]
/-- the tuple at b is the boxes bs -/
def BoxAt (H : Hp) (b : Addr) (bs : List (Str × Nat)) : Prop := ∃ as : List Addr, H b = some (.tup (as.map V.ref)) ∧ as.length = bs.length ∧
  ∀ (i : Nat) (nm : Str) (z : Nat), bs[i]? = some (nm, z) → ∃ a, as[i]? = some a ∧ H a = some (.tup [.str nm, .int (z : Int)])
theorem BoxAt.kp {ex : List Addr} {H H' : Hp} {b : Addr} {bs : List (Str × Nat)} (h : BoxAt H b bs) (k : Kp ex H H') : BoxAt H' b bs := by
  obtain ⟨as, h1, h2, h3⟩ := h
  refine ⟨as, k.tup _ _ h1, h2, fun i nm z e => ?_⟩
  obtain ⟨a, e1, e2⟩ := h3 i nm z e
  exact ⟨a, e1, k.tup _ _ e2⟩
structure SAt (P : Program) (w : World) (C : Addr) (e : En) (H : Hp) (st : Sto) : Prop where
  ob : ∃ dx, H e.p = some (.ins C dx (flds e.b e.lk e.d))
  bx : BoxAt H e.b e.bs
  kl : ∃ as : List Addr, H e.lk = some (.lst (as.map V.ref)) ∧ PlAt P w H e.d as st
  wf : Wf e.szs st
/-- a fraction -/
def FrAt (H : Hp) (t : Addr) (v : Frac) : Prop := H t = some (.tup [.int v.1, .int v.2])
theorem FrAt.kp {ex : List Addr} {H H' : Hp} {t : Addr} {v : Frac} (h : FrAt H t v) (k : Kp ex H H') : FrAt H' t v := k.tup _ _ h
section
variable {P : Program} {w : World} {C : Addr} {e : En} {H H' : Hp} {st : Sto}
/-- a store that is not touched -/
theorem SAt.kp {ex : List Addr} (h : SAt P w C e H st) (k : Kp ex H H') (h1 : e.lk ∉ ex) (h2 : e.d ∉ ex) : SAt P w C e H' st := by
  obtain ⟨⟨dx, o⟩, bx, ⟨as, l1, l2, l3, l4, l5⟩, wf⟩ := h
  exact ⟨⟨dx, k.ins _ _ _ _ o⟩, bx.kp k, ⟨as, k.lst l1 h1, ⟨k.keep _ _ l2 h2 (fun ps z => by unfold PlO at z; cases z), l3.kp k, l4, l5⟩⟩, wf⟩
theorem SAt.nw (h : SAt P w C e H st) {p : Addr} (hp : H p = none) (o : HO) : SAt P w C e (upd H p o) st := h.kp (Kp.new (ex := []) hp o) (by simp) (by simp)
/-- a list of one's own is written -/
theorem SAt.wl {H0 : Hp} {st0 : Sto} (h : SAt P w C e H st) (h0 : SAt P w C e H0 st0) {p : Addr} (hp0 : H0 p = none) {xs : List V} (hp : H p = some (.lst xs)) (o : HO) : SAt P w C e (upd H p o) st := by
  obtain ⟨as, l1, D⟩ := h0.kl
  exact h.kp (Kp.wrL (ex := [p]) hp (by simp) o) (fun z => ne_of_none l1 hp0 (by simpa using z)) (fun z => ne_of_none D.dc hp0 (by simpa using z))
/-- .. is kept by the store's work -/
theorem SAt.own (h : SAt P w C e H st) {p : Addr} (hp : H p = none) : p ∉ e.ex := by
  obtain ⟨as, l1, D⟩ := h.kl
  intro q
  rcases List.mem_cons.mp q with q | q
  · exact ne_of_none l1 hp q.symm
  · exact ne_of_none D.dc hp (List.mem_singleton.mp q).symm
/-- what stands at the node n -/
theorem SAt.at (h : SAt P w C e H st) {n : Nat} {r : Rec} (en : st[n]? = some r) : ∃ (as : List Addr) (a : Addr), H e.lk = some (.lst (as.map V.ref)) ∧ (as.map V.ref)[n]? = some (V.ref a) ∧ RecAt H a r := by
  obtain ⟨as, l1, D⟩ := h.kl
  obtain ⟨a, ha, hr⟩ := D.rc n r en
  exact ⟨as, a, l1, by rw [List.getElem?_map, ha]; rfl, hr⟩
end
theorem vI_at {ns : List Nat} {i k : Nat} (h : ns[i]? = some k) : (vI ns)[i]? = some (V.int (k : Int)) := by
  show (ns.map _)[i]? = _
  rw [List.getElem?_map, h]; rfl
end Lots
end
section
set_option Elab.async false
set_option maxRecDepth 100000
set_option maxHeartbeats 4000000
namespace Lots
open PySem PySem.Spec PyProof.Rows L2
variable [TabP]
theorem hu10_of {A : Around} {k : Nat} (hr : Room k A) : A.units + 10 < cLine := Nat.lt_of_le_of_lt (Nat.add_le_add_left (by decide : 10 ≤ 64) _) hr.units
theorem mill {n : Nat} (h : n < 1000000) : n < sizeLine := Nat.lt_trans h (by decide)
theorem e_of_kl {H : Hp} {lk d : Addr} {as : List Addr} {P : Program} {w : World} {bs : List Addr} {st : Sto} (h : H lk = some (.lst (as.map V.ref))) (g : H d = some (PlO P w d bs st)) : lk ≠ d :=
  ne_of h g (fun z => by unfold PlO at z; cases z)

/-- a new record is laid -/
theorem SAt.push {P : Program} {w : World} {C : Addr} {e : En} {H : Hp} {st : Sto} {a : Addr} {r : Rec} {as : List Addr} (S : SAt P w C e H st) (hl : H e.lk = some (.lst (as.map V.ref))) (D : PlAt P w H e.d as st) (R : RecAt H a r) (hn : r ∉ st)
    (hwf : ∀ l ks, r = .fork l ks → e.szs[l]? = some ks.length ∧ (∀ k ∈ ks, k < st.length ∧ l < lev e.szs.length st k) ∧ ¬ ∃ b, ∀ k ∈ ks, k = b) :
    e.lk ≠ e.d ∧ Kp e.ex H (upd H e.d (PlO P w e.d (as ++ [a]) (st ++ [r]))) ∧ Kp e.ex H (upd (upd H e.d (PlO P w e.d (as ++ [a]) (st ++ [r]))) e.lk (.lst (as.map V.ref ++ [.ref a]))) ∧
      PlAt P w (upd (upd H e.d (PlO P w e.d (as ++ [a]) (st ++ [r]))) e.lk (.lst (as.map V.ref ++ [.ref a]))) e.d (as ++ [a]) (st ++ [r]) ∧
      (st ++ [r])[st.length]? = some r ∧ SAt P w C e (upd (upd H e.d (PlO P w e.d (as ++ [a]) (st ++ [r]))) e.lk (.lst (as.map V.ref ++ [.ref a]))) (st ++ [r]) := by
  obtain ⟨⟨dx, hp⟩, bx, _, wf⟩ := S
  have nld : e.lk ≠ e.d := e_of_kl hl D.dc
  have h2 : Kp e.ex H (upd H e.d (PlO P w e.d (as ++ [a]) (st ++ [r]))) := Kp.wrP D.dc (by simp) _
  have hl2 : upd H e.d (PlO P w e.d (as ++ [a]) (st ++ [r])) e.lk = some (.lst (as.map V.ref)) := by rw [upd_ne nld]; exact hl
  have h3 : Kp e.ex H (upd (upd H e.d (PlO P w e.d (as ++ [a]) (st ++ [r]))) e.lk (.lst (as.map V.ref ++ [.ref a]))) := h2.trans (Kp.wrL hl2 (by simp) _)
  have hd3 : upd (upd H e.d (PlO P w e.d (as ++ [a]) (st ++ [r]))) e.lk (.lst (as.map V.ref ++ [.ref a])) e.d = some (PlO P w e.d (as ++ [a]) (st ++ [r])) := by rw [upd_ne nld.symm, upd_same]
  have hl3 : upd (upd H e.d (PlO P w e.d (as ++ [a]) (st ++ [r]))) e.lk (.lst (as.map V.ref ++ [.ref a])) e.lk = some (.lst ((as ++ [a]).map V.ref)) := by rw [upd_same, List.map_append]; rfl
  generalize upd (upd H e.d (PlO P w e.d (as ++ [a]) (st ++ [r]))) e.lk (.lst (as.map V.ref ++ [.ref a])) = H3 at h3 hd3 hl3 ⊢
  have hi : (st ++ [r])[st.length]? = some r := by rw [List.getElem?_append_right (Nat.le_refl _), Nat.sub_self]; rfl
  have D3 : PlAt P w H3 e.d (as ++ [a]) (st ++ [r]) := by
    refine ⟨hd3, fun i r' ei => ?_, (wf.push hn hwf).nd, by rw [List.length_append, List.length_append, D.al]; rfl⟩
    by_cases hlt : i < st.length
    · rw [List.getElem?_append_left hlt] at ei
      obtain ⟨c, hc, hr'⟩ := D.rc i r' ei
      exact ⟨c, by rw [List.getElem?_append_left (by rw [D.al]; exact hlt)]; exact hc, hr'.kp h3⟩
    · have ej : i = st.length := by
        have z := (List.getElem?_eq_some_iff.mp ei).1
        rw [List.length_append, List.length_singleton] at z
        omega
      subst ej
      rw [hi] at ei
      cases ei
      exact ⟨a, by rw [List.getElem?_append_right (by rw [D.al]; exact Nat.le_refl _), D.al, Nat.sub_self]; rfl, R.kp h3⟩
  exact ⟨nld, h2, h3, D3, hi, ⟨dx, h3.ins _ _ _ _ hp⟩, bx.kp h3, ⟨as ++ [a], hl3, D3⟩, wf.push hn hwf⟩

/-- node_of: the node of a record -/
def spNodeOf (P : Program) (w : World) (C : Addr) : Sp := fun vs H Q _ => ∃ (e : En) (a : Addr) (st : Sto) (r : Rec), vs = [.ref e.p, .ref a] ∧ SAt P w C e H st ∧ RecAt H a r ∧ st.length < 1000000 ∧
  (∀ l ks, r = .fork l ks → e.szs[l]? = some ks.length ∧ (∀ k ∈ ks, k < st.length ∧ l < lev e.szs.length st k) ∧ ¬ ∃ b, ∀ k ∈ ks, k = b) ∧
  ∀ (st' : Sto) (n : Nat) (H' : Hp), Ext st st' → st'.length ≤ st.length + 1 → st'[n]? = some r → SAt P w C e H' st' → Kp e.ex H H' → Q (.int (n : Int)) H'
section
variable {P : Program} {w : World} {K : PySem.W.Frag} {mg : Str → Option Value} {base : Heap}
theorem scNodeOf : FnScope ["self", "what"] ["self", "what"] (defScope sNodeOf) := ⟨rfl, rfl, rfl, by decide +kernel, rfl, by decide +kernel, by decide +kernel⟩
theorem ok_node_of (T : Tx K mg) : FnOk P w K mg base CX0 1 T.node_of.f T.node_of.fd ["self", "what"] (spNodeOf P w T.C) := by
  refine T.node_of.F.ok scNodeOf (fun vs H Q E h => ?_) (fun cdv A outer s H vs Q E hr h => ?_)
  · obtain ⟨e, a, st, r, rfl, _⟩ := h
    rfl
  obtain ⟨e, a, st, r, rfl, S, R, hlen, hwf, k⟩ := h
  have hu := hu10_of hr
  refine ⟨_, pss_cons (ps_if (pt_cmpR (op_plNotIn hu) (pv 1) (pe_fld (pv 0) rfl) (by rfl))
      (pss_cons (ps_asg (pe_callB call_len_seq (by rfl) T.len PySem.boot_len (pa_cons (pe_fld (pv 0) rfl) pa_nil)) (pg_sub (pe_fld (pv 0) rfl) (pv 1) (set_pl hu)))
      (pss_one (ps_expr (pe_bm PySem.F.plainAttrs_list PySem.F.slot_list_append PySem.F.type_list_append mt_append (pe_fld (pv 0) rfl) (pa_cons (pv 1) pa_nil)))))
      pss_nil)
    (pss_one (ps_ret (pe_plGet hu (pe_fld (pv 0) rfl) (pv 1)))), ?_⟩
  obtain ⟨⟨dx, hp⟩, bx, ⟨as, hl, D⟩, wf⟩ := id S
  refine ⟨_, rfl, _, rfl, e.p, T.C, dx, _, _, rfl, hp, T.cl, T.nP, flds_places _ _ _, a, e.d, as, st, r, rfl, rfl, D, R, _, rfl, ?_⟩
  refine ite2 (fun hn => ?_) (fun hn => ?_)
  · have hn' : r ∉ st := of_decide_eq_true hn
    obtain ⟨nld, h2, h3, D3, hi, S3⟩ := S.push hl D R hn' hwf
    refine ⟨_, rfl, e.p, T.C, dx, _, _, rfl, hp, T.cl, T.nK, flds_kept _ _ _, e.lk, _, rfl, .inl (SqL.of hl), ?_⟩
    refine ⟨_, rfl, e.p, T.C, dx, _, _, rfl, hp, T.cl, T.nP, flds_places _ _ _, _, rfl, a, e.d, as, st, r, rfl, rfl, by rw [List.length_map, D.al], D, R, hn', mill hlen, ?_⟩
    refine ⟨_, rfl, e.p, T.C, dx, _, _, rfl, h2.ins _ _ _ _ hp, T.cl, T.nK, flds_kept _ _ _, .inl ⟨rfl, _, SqL.of (by rw [upd_ne nld]; exact hl)⟩, _, rfl, e.lk, _, _, rfl, rfl, by rw [upd_ne nld]; exact hl, by rw [List.length_map, D.al]; exact mill hlen, ?_⟩
    refine ⟨_, rfl, e.p, T.C, dx, _, _, rfl, h3.ins _ _ _ _ hp, T.cl, T.nP, flds_places _ _ _, _, rfl, a, e.d, as ++ [a], st ++ [r], r, st.length, rfl, rfl, D3, R.kp h3, hi, ?_⟩
    exact k (st ++ [r]) st.length _ ⟨[r], rfl⟩ (by rw [List.length_append]; exact Nat.le_refl _) hi S3 h3
  · have hm : r ∈ st := Decidable.of_not_not fun z => hn (decide_eq_true z)
    obtain ⟨i, hi⟩ := List.mem_iff_getElem?.mp hm
    refine ⟨_, rfl, e.p, T.C, dx, _, _, rfl, hp, T.cl, T.nP, flds_places _ _ _, _, rfl, a, e.d, as, st, r, i, rfl, rfl, D, R, hi, ?_⟩
    exact k st i H (Ext.refl _) (Nat.le_succ _) hi S (Kp.refl _ _)

/-- leaf -/
def spLeaf (P : Program) (w : World) (C : Addr) : Sp := fun vs H Q _ => ∃ (e : En) (t : Addr) (st : Sto) (v : Frac), vs = [.ref e.p, .ref t] ∧ SAt P w C e H st ∧ FrAt H t v ∧ st.length < 1000000 ∧
  ∀ (st' : Sto) (n : Nat) (H' : Hp), Ext st st' → st'.length ≤ st.length + 1 → Nd e.szs st' e.szs.length n (fun _ => v) → SAt P w C e H' st' → Kp e.ex H H' → Q (.int (n : Int)) H'
theorem scLeaf : FnScope ["self", "one"] ["self", "one"] (defScope sLeaf) := ⟨rfl, rfl, rfl, by decide +kernel, rfl, by decide +kernel, by decide +kernel⟩
theorem flds_node_of (b l d : Addr) : (flds b l d).lookup ("node_of" : Str) = none := flds_no _ _ _ (by decide +kernel) (by decide +kernel) (by decide +kernel)
theorem ok_leaf (T : Tx K mg) : FnOk P w K mg base CX0 2 T.leaf.f T.leaf.fd ["self", "one"] (spLeaf P w T.C) := by
  refine T.leaf.F.ok scLeaf (fun vs H Q E h => ?_) (fun cdv A outer s H vs Q E hr h => ?_)
  · obtain ⟨e, t, st, v, rfl, _⟩ := h
    rfl
  obtain ⟨e, t, st, v, rfl, S, R, hlen, k⟩ := h
  refine ⟨_, pss_one (ps_ret (pe_meth (pv 0) T.cl T.node_of.m (ok_node_of T) hr T.node_of.b .nil pass0 (pa_cons (pe_tup (pa_cons pe_str (pa_cons (pv 1) pa_nil))) pa_nil))), ?_⟩
  obtain ⟨dx, hp⟩ := S.ob
  refine ⟨_, rfl, e.p, dx, _, rfl, hp, flds_node_of _ _ _, _, rfl, (by show 2 ≤ sizeLine; decide), fun a ha => ?_⟩
  have h1 : Kp [] H (upd H a (.tup [.str "leaf", .ref t])) := Kp.new ha _
  refine ⟨e, a, st, .leaf v.1 v.2, rfl, S.kp h1 (by simp) (by simp), ⟨t, upd_same, h1.tup _ _ R⟩, hlen, (fun l ks z => nomatch z), fun st' n H' E1 E2 E3 S' k' => ?_⟩
  exact k st' n H' E1 E2 (nd_leaf E3) S' ((Kp.of0 h1).trans k')

/-- fork: kids that tell G i -/
def spFork (P : Program) (w : World) (K : PySem.W.Frag) (C : Addr) : Sp := fun vs H Q _ => ∃ (e : En) (l : Nat) (L : Addr) (ks : List Nat) (st : Sto) (G : Nat → List Nat → Frac), vs = [.ref e.p, .int (l : Int), .ref L] ∧ SAt P w C e H st ∧ SqL K H L (vI ks) ∧ st.length < 1000000 ∧
  ks.length ≤ 1000 ∧ e.szs[l]? = some ks.length ∧ (∀ i k, ks[i]? = some k → Nd e.szs st (l + 1) k (G i)) ∧
  ∀ (st' : Sto) (n : Nat) (H' : Hp), Ext st st' → st'.length ≤ st.length + 1 → Nd e.szs st' l n (fun s => G (s.getD l 0) s) → SAt P w C e H' st' → Kp e.ex H H' → Q (.int (n : Int)) H'
theorem scFork : FnScope ["self", "level", "kids"] ["self", "level", "kids"] (defScope sFork) := ⟨rfl, rfl, rfl, by decide +kernel, rfl, by decide +kernel, by decide +kernel⟩
theorem vI_eq (ks : List Nat) : vI ks = (ks.map fun (k : Nat) => (k : Int)).map V.int := by
  show ks.map _ = _
  rw [List.map_map]
  rfl
theorem nSet_nat {ks : List Nat} : nSet (ks.map fun (k : Nat) => (k : Int)) = 1 ↔ 0 < ks.length ∧ ∃ a, ∀ k ∈ ks, k = a := by
  rw [nSet_one, List.length_map]
  refine and_congr_right fun h0 => ⟨fun ⟨a, ha⟩ => ⟨a.toNat, fun k hk => ?_⟩, fun ⟨a, ha⟩ => ⟨(a : Int), fun k hk => ?_⟩⟩
  · have := ha _ (List.mem_map.mpr ⟨k, hk, rfl⟩)
    omega
  · obtain ⟨j, hj, rfl⟩ := List.mem_map.mp hk
    rw [ha j hj]
theorem ok_fork (T : Tx K mg) : FnOk P w K mg base CX0 2 T.fork.f T.fork.fd ["self", "level", "kids"] (spFork P w K T.C) := by
  refine T.fork.F.ok scFork (fun vs H Q E h => ?_) (fun cdv A outer s H vs Q E hr h => ?_)
  · obtain ⟨e, l, L, ks, st, G, rfl, _⟩ := h
    rfl
  obtain ⟨e, l, L, ks, st, G, rfl, S, hL, hlen, hks, hz, hG, k⟩ := h
  refine ⟨_, pss_cons (ps_if (pt_cmpR op_eq (pe_nSet (by rfl) T.len (by rfl) T.set (pv 2)) pe_int (nomark _)) (pss_one (ps_ret (pe_ix ix_list (pv 2) pe_int (fun _ _ => rfl)))) pss_nil)
    (pss_one (ps_ret (pe_meth (pv 0) T.cl T.node_of.m (ok_node_of T) hr T.node_of.b .nil pass0 (pa_cons (pe_tup (pa_cons pe_str (pa_cons (pv 1) (pa_cons (pe_callTy call_tuple_of (by rfl) T.tuple (by decide +kernel) (pa_cons (pv 2) pa_nil)) pa_nil)))) pa_nil)))), ?_⟩
  obtain ⟨dx, hp⟩ := S.ob
  have h0 : 0 < ks.length := S.wf.pos _ (List.mem_of_getElem? hz)
  refine ⟨_, rfl, L, _, rfl, by rw [← vI_eq]; exact hL, by rw [List.length_map]; omega, rfl, _, rfl, ?_⟩
  refine ite2 (fun hn => ?_) (fun hn => ?_)
  · have hn' := of_decide_eq_true hn
    have hn2 : nSet (ks.map fun (k : Nat) => (k : Int)) = 1 := by
      injection hn' with z
      omega
    obtain ⟨_, a, ha⟩ := nSet_nat.mp hn2
    have e0 : ks[0]? = some a := by rw [List.getElem?_eq_getElem h0, ha _ (List.getElem_mem h0)]
    refine ⟨_, rfl, L, _, _, _, rfl, rfl, hL, atI_nat (vI_at e0), ?_⟩
    exact k st a H (Ext.refl _) (Nat.le_succ _) (nd_one hz ha h0 hG) S (Kp.refl _ _)
  · have hn2 : ¬ ∃ a, ∀ k ∈ ks, k = a := fun z => by
      refine hn (decide_eq_true ?_)
      rw [nSet_nat.mpr ⟨h0, z⟩]
      rfl
    refine ⟨_, rfl, e.p, dx, _, rfl, hp, flds_node_of _ _ _, _, rfl, _, rfl, L, _, rfl, .inl ⟨hL, fun t ht => ?_⟩⟩
    have h1 : Kp [] H (upd H t (.tup (vI ks))) := Kp.new ht _
    refine ⟨(by show 3 ≤ sizeLine; decide), fun a ha => ?_⟩
    have h2 : Kp [] H (upd (upd H t (.tup (vI ks))) a (.tup [.str "fork", .int (l : Int), .ref t])) := h1.trans (Kp.new ha _)
    have hat : t ≠ a := fun z => by rw [z, upd_same] at ha; cases ha
    refine ⟨e, a, st, .fork l ks, rfl, S.kp h2 (by simp) (by simp), ⟨t, upd_same, by rw [upd_ne hat, upd_same]⟩, hlen, ?_, fun st' n H' E1 E2 E3 S' k' => ?_⟩
    · intro l' ks' z
      cases z
      refine ⟨hz, fun j hj => ?_, hn2⟩
      obtain ⟨i, hi⟩ := List.mem_iff_getElem?.mp hj
      have x := hG i j hi
      exact ⟨x.lt, x.lv⟩
    · exact k st' n H' E1 E2 (nd_fork E3 hz fun i j hi => (hG i j hi).ext E1) S' ((Kp.of0 h2).trans k')
end
end Lots
end
section
set_option Elab.async false
set_option maxRecDepth 100000
set_option maxHeartbeats 4000000
namespace Lots
open PySem PySem.Spec PyProof.Rows L2
variable [TabP]
theorem lf_ : ¬ (V.str ("leaf" : Str) = V.str ("fork" : Str)) := by decide +kernel
section
variable {P : Program} {w : World} {K : PySem.W.Frag} {mg : Str → Option Value} {base : Heap}
/-- value_at: what a node tells -/
def spValueAt (P : Program) (w : World) (C : Addr) : Sp := fun vs H Q _ => ∃ (e : En) (n : Nat) (sa : Addr) (s : List Nat) (st : Sto) (v : Frac), vs = [.ref e.p, .int (n : Int), .ref sa] ∧ SAt P w C e H st ∧ H sa = some (.tup (vI s)) ∧ Val st n s v ∧
  ∀ t, FrAt H t v → Q (.ref t) H
theorem scValueAt : FnScope ["self", "node", "state", "what"] ["self", "node", "state"] (defScope sValueAt) := ⟨rfl, rfl, rfl, by decide +kernel, rfl, by decide +kernel, by decide +kernel⟩
theorem at0 {x : V} {r : List V} : atI (x :: r) 0 = some x := atI_nat (j := 0) rfl
theorem at1 {x y : V} {r : List V} : atI (x :: y :: r) 1 = some y := atI_nat (j := 1) rfl
theorem at2 {x y z : V} {r : List V} : atI (x :: y :: z :: r) 2 = some z := atI_nat (j := 2) rfl
theorem ok_value_at (T : Tx K mg) : FnOk P w K mg base CX0 1 T.value_at.f T.value_at.fd ["self", "node", "state"] (spValueAt P w T.C) := by
  refine T.value_at.F.ok scValueAt (fun vs H Q E h => ?_) (fun cdv A outer s H vs Q E hr h => ?_)
  · obtain ⟨e, n, sa, s, st, v, rfl, _⟩ := h
    rfl
  obtain ⟨e, n, sa, s, st, v, rfl, S, hs, hv, k⟩ := h
  refine ⟨_, pss_cons (ps_set (i := 3) scValueAt.nd rfl (Or.inl rfl) (pe_ix ix_list (pe_fld (pv 0) rfl) (pv 1) (fun _ _ => rfl)))
    (pss_cons (ps_while PassesOwn.never (pt_cmpR op_eq (pe_ix ix_tup (pv 3) pe_int (fun _ _ => rfl)) pe_str (nomark _))
      (pss_one (ps_set (i := 3) scValueAt.nd rfl (Or.inl rfl) (pe_ix ix_list (pe_fld (pv 0) rfl)
        (pe_ix ix_tup (pe_ix ix_tup (pv 3) pe_int (fun _ _ => rfl)) (pe_ix ix_tup (pv 2) (pe_ix ix_tup (pv 3) pe_int (fun _ _ => rfl)) (fun _ _ => rfl)) (fun _ _ => rfl)) (fun _ _ => rfl)))))
    (pss_one (ps_ret (pe_ix ix_tup (pv 3) pe_int (fun _ _ => rfl))))), ?_⟩
  obtain ⟨dx, hp⟩ := S.ob
  obtain ⟨r0, e0⟩ : ∃ r, st[n]? = some r := ⟨_, List.getElem?_eq_getElem hv.lt⟩
  obtain ⟨as, a, hl, ha, R⟩ := S.at e0
  refine ⟨_, rfl, e.p, T.C, dx, _, _, rfl, hp, T.cl, T.nK, flds_kept _ _ _, _, rfl, e.lk, _, _, _, rfl, rfl, SqL.of hl, atI_nat ha, ?_⟩
  refine ⟨fun m σ H' => H' = H ∧ ∃ (a : Addr) (r : Rec), σ = [some (.ref e.p), some (.int (n : Int)), some (.ref sa), some (.ref a)] ∧ st[m]? = some r ∧ RecAt H a r ∧ Val st m s v, ⟨n, rfl, a, r0, rfl, e0, R, hv⟩, fun m σ H' h => ?_⟩
  obtain ⟨rfl, a, r, rfl, er, R, hv⟩ := h
  cases r with
  | leaf x y =>
    obtain ⟨t, h1, h2⟩ := R
    refine ⟨_, rfl, a, _, _, _, rfl, rfl, SqT.of h1, at0, rfl, _, rfl, ?_⟩
    refine ite2 (fun z => absurd (of_decide_eq_true z) lf_) (fun _ => ?_)
    refine ⟨_, rfl, a, _, _, _, rfl, rfl, SqT.of h1, at1, k t ?_⟩
    cases hv with
    | leaf f => rw [er] at f; cases f; exact h2
    | fork f => rw [er] at f; cases f
  | fork l ks =>
    obtain ⟨t, h1, h2⟩ := R
    cases hv with
    | leaf f => rw [er] at f; cases f
    | @fork _ _ _ _ i k' _ f1 f2 f3 g =>
      rw [er] at f1
      cases f1
      obtain ⟨r', e'⟩ : ∃ r, st[k']? = some r := ⟨_, List.getElem?_eq_getElem g.lt⟩
      obtain ⟨as', a', hl', ha', R'⟩ := S.at e'
      have hlt : k' < m := (S.wf.fk m l ks er).2.1 k' (List.mem_of_getElem? f3) |>.1
      refine ⟨_, rfl, a, _, _, _, rfl, rfl, SqT.of h1, at0, rfl, _, rfl, ?_⟩
      refine ite2 (fun _ => ?_) (fun z => absurd (decide_eq_true rfl) z)
      refine ⟨fun σ' H' => H' = _ ∧ ∃ (a : Addr) (r : Rec), σ' = [some (.ref e.p), some (.int (n : Int)), some (.ref sa), some (.ref a)] ∧ st[k']? = some r ∧ RecAt _ a r ∧ Val st k' s v, fun σ' H' q => ⟨k', hlt, q⟩, ?_⟩
      refine ⟨_, rfl, e.p, T.C, dx, _, _, rfl, hp, T.cl, T.nK, flds_kept _ _ _, _, rfl, a, _, _, _, rfl, rfl, SqT.of h1, at2, _, rfl, _, rfl, a, _, _, _, rfl, rfl, SqT.of h1, at1, sa, _, _, _, rfl, rfl, SqT.of hs, atI_nat (vI_at f2), t, _, _, _, rfl, rfl, SqT.of h2, atI_nat (vI_at f3), ?_⟩
      exact ⟨e.lk, _, _, _, rfl, rfl, SqL.of hl', atI_nat ha', rfl, a', r', rfl, e', R', g⟩

/-- level_of: the level of a node -/
def spLevelOf (P : Program) (w : World) (C : Addr) : Sp := fun vs H Q _ => ∃ (e : En) (n : Nat) (st : Sto), vs = [.ref e.p, .int (n : Int)] ∧ SAt P w C e H st ∧ n < st.length ∧ Q (.int ((lev e.szs.length st n : Nat) : Int)) H
theorem scLevelOf : FnScope ["self", "node", "what"] ["self", "node"] (defScope sLevelOf) := ⟨rfl, rfl, rfl, by decide +kernel, rfl, by decide +kernel, by decide +kernel⟩
theorem ok_level_of (T : Tx K mg) : FnOk P w K mg base CX0 1 T.level_of.f T.level_of.fd ["self", "node"] (spLevelOf P w T.C) := by
  refine T.level_of.F.ok scLevelOf (fun vs H Q E h => ?_) (fun cdv A outer s H vs Q E hr h => ?_)
  · obtain ⟨e, n, st, rfl, _⟩ := h
    rfl
  obtain ⟨e, n, st, rfl, S, hn, k⟩ := h
  refine ⟨_, pss_cons (ps_set (i := 2) scLevelOf.nd rfl (Or.inl rfl) (pe_ix ix_list (pe_fld (pv 0) rfl) (pv 1) (fun _ _ => rfl)))
    (pss_cons (ps_if (pt_cmpR op_eq (pe_ix ix_tup (pv 2) pe_int (fun _ _ => rfl)) pe_str (nomark _)) (pss_one (ps_ret (pe_ix ix_tup (pv 2) pe_int (fun _ _ => rfl)))) pss_nil)
    (pss_one (ps_ret (pe_callB call_len_seq (by rfl) T.len PySem.boot_len (pa_cons (pe_fld (pv 0) rfl) pa_nil))))), ?_⟩
  obtain ⟨dx, hp⟩ := S.ob
  have e0 : st[n]? = some st[n] := List.getElem?_eq_getElem hn
  obtain ⟨as, a, hl, ha, R⟩ := S.at e0
  refine ⟨_, rfl, e.p, T.C, dx, _, _, rfl, hp, T.cl, T.nK, flds_kept _ _ _, _, rfl, e.lk, _, _, _, rfl, rfl, SqL.of hl, atI_nat ha, ?_⟩
  cases er : st[n] with
  | leaf x y =>
    rw [er] at R e0
    obtain ⟨t, h1, h2⟩ := R
    refine ⟨_, rfl, a, _, _, _, rfl, rfl, SqT.of h1, at0, rfl, _, rfl, ?_⟩
    refine ite2 (fun z => absurd (of_decide_eq_true z) lf_) (fun _ => ?_)
    obtain ⟨bs, b1, b2, b3⟩ := S.bx
    refine ⟨_, rfl, e.p, T.C, dx, _, _, rfl, hp, T.cl, T.nB, flds_boxes _ _ _, e.b, _, rfl, .inr (SqT.of b1), ?_⟩
    rw [lev_leaf e0] at k
    have el : (bs.map V.ref).length = e.szs.length := by rw [List.length_map, List.length_map, b2]
    rw [el]
    exact k
  | fork l ks =>
    rw [er] at R e0
    obtain ⟨t, h1, h2⟩ := R
    refine ⟨_, rfl, a, _, _, _, rfl, rfl, SqT.of h1, at0, rfl, _, rfl, ?_⟩
    refine ite2 (fun _ => ?_) (fun z => absurd (decide_eq_true rfl) z)
    refine ⟨_, rfl, a, _, _, _, rfl, rfl, SqT.of h1, at1, ?_⟩
    rw [lev_fork e0] at k
    exact k
end
end Lots
end
section
set_option Elab.async false
set_option maxRecDepth 100000
set_option maxHeartbeats 4000000
namespace Lots
open PySem PySem.Spec PyProof.Rows L2
variable [TabP]
/-- the nodes of a whole tree -/
def cst : List Nat → Nat
  | [] => 1
  | z :: r => 1 + z * cst r
theorem cst_pos : ∀ l, 1 ≤ cst l
  | [] => Nat.le_refl _
  | _ :: _ => Nat.le_add_right _ _
theorem cst_tail {z : Nat} {r : List Nat} (h : 1 ≤ z) : cst r ≤ cst (z :: r) := by
  show cst r ≤ 1 + z * cst r
  have := Nat.mul_le_mul_right (cst r) h
  omega
theorem cst_drop : ∀ {l : List Nat} (_ : ∀ z ∈ l, 1 ≤ z) (h : Nat), cst (l.drop h) ≤ cst l
  | [], _, h => by rw [List.drop_nil]; exact Nat.le_refl _
  | _ :: _, _, 0 => Nat.le_refl _
  | z :: r, p, h + 1 => by
    rw [List.drop_succ_cons]
    exact Nat.le_trans (cst_drop (fun y hy => p y (List.mem_cons_of_mem _ hy)) h) (cst_tail (p z List.mem_cons_self))
theorem cst_mono {l : List Nat} (p : ∀ z ∈ l, 1 ≤ z) {b h : Nat} (hb : b ≤ h) : cst (l.drop h) ≤ cst (l.drop b) := by
  obtain ⟨d, rfl⟩ := Nat.exists_eq_add_of_le hb
  rw [← List.drop_drop]
  exact cst_drop (fun z hz => p z (List.mem_of_mem_drop hz)) d
theorem cst_at {l : List Nat} {h z : Nat} (e : l[h]? = some z) : cst (l.drop h) = 1 + z * cst (l.drop (h + 1)) := by
  obtain ⟨hh, eh⟩ := List.getElem?_eq_some_iff.mp e
  rw [List.drop_eq_getElem_cons hh, eh]
  rfl
theorem lev_le {szs : List Nat} {st : Sto} (W : Wf szs st) (n : Nat) : lev szs.length st n ≤ szs.length := by
  unfold lev
  split
  · rename_i l ks e
    exact Nat.le_of_lt (W.lev_lt e)
  · exact Nat.le_refl _
theorem fork_of_lev {szs : List Nat} {st : Sto} {n : Nat} (h : lev szs.length st n < szs.length) : ∃ ks, st[n]? = some (.fork (lev szs.length st n) ks) := by
  cases e : st[n]? with
  | none => unfold lev at h; rw [e] at h; exact absurd h (Nat.lt_irrefl _)
  | some r =>
    cases r with
    | leaf p q => rw [lev_leaf e] at h; exact absurd h (Nat.lt_irrefl _)
    | fork l ks => rw [lev_fork e]; exact ⟨ks, rfl⟩
theorem set_swap {s : List Nat} {l h i num : Nat} (hl : l ≠ h) (hs : s[h]? = some i) : ((s.set l num).set h i) = s.set l num := by
  apply List.ext_getElem?
  intro j
  by_cases e : h = j
  · subst e
    rw [List.getElem?_set_self (by rw [List.length_set]; exact (List.getElem?_eq_some_iff.mp hs).1), List.getElem?_set_ne hl, hs]
  · rw [List.getElem?_set_ne e]

section
variable {P : Program} {w : World} {K : PySem.W.Frag} {mg : Str → Option Value} {base : Heap}
theorem tYes_of {σ : L2.St} {H : Hp} {Q : Bool → Hp → Prop} (h : Q true H) : tYes σ H Q := h
theorem flds_level_of (b l d : Addr) : (flds b l d).lookup ("level_of" : Str) = none := flds_no _ _ _ (by decide +kernel) (by decide +kernel) (by decide +kernel)
theorem flds_fork (b l d : Addr) : (flds b l d).lookup ("fork" : Str) = none := flds_no _ _ _ (by decide +kernel) (by decide +kernel) (by decide +kernel)
theorem flds_fixed (b l d : Addr) : (flds b l d).lookup ("fixed" : Str) = none := flds_no _ _ _ (by decide +kernel) (by decide +kernel) (by decide +kernel)
/-- fixed, m calls deep at most -/
def spFixed (P : Program) (w : World) (C : Addr) (m : Nat) : Sp := fun vs H Q _ => ∃ (e : En) (n l num z b : Nat) (st : Sto) (T : List Nat → Frac), vs = [.ref e.p, .int (n : Int), .int (l : Int), .int (num : Int)] ∧ SAt P w C e H st ∧ Nd e.szs st b n T ∧
  e.szs[l]? = some z ∧ num < z ∧ z ≤ 1000 ∧ (∀ y ∈ e.szs, y ≤ 1000) ∧ e.szs.length + 1 ≤ b + m ∧ st.length + cst (e.szs.drop b) < 1000000 ∧
  ∀ (st' : Sto) (n' : Nat) (H' : Hp), Ext st st' → st'.length ≤ st.length + cst (e.szs.drop b) → Nd e.szs st' b n' (fun s => T (s.set l num)) → SAt P w C e H' st' → Kp e.ex H H' → Q (.int (n' : Int)) H'
theorem scFixed : FnScope ["self", "node", "level", "number", "here", "kid"] ["self", "node", "level", "number"] (defScope sFixed) := ⟨rfl, rfl, rfl, by decide +kernel, rfl, by decide +kernel, by decide +kernel⟩
theorem ok_fixed (T : Tx K mg) : ∀ m : Nat, FnOk P w K mg base CX0 (m + 3) T.fixed.f T.fixed.fd ["self", "node", "level", "number"] (spFixed P w T.C m)
  | 0 => by
    have no : ∀ vs H Q E, ¬ spFixed P w T.C 0 vs H Q E := fun vs H Q E h => by
      obtain ⟨e, n, l, num, z, b, st, T', _, S, x, _, _, _, _, hf, _⟩ := h
      have h1 := x.lv
      have h2 := lev_le S.wf n
      omega
    exact ⟨fun vs H Q E h => absurd h (no vs H Q E), fun A outer s H args us vs Q E _ _ _ _ h => absurd h (no vs H Q E)⟩
  | m + 1 => by
    have ih := ok_fixed T m
    refine T.fixed.F.ok scFixed (fun vs H Q E h => ?_) (fun cdv A outer s H vs Q E hr h => ?_)
    · obtain ⟨e, n, l, num, z, b, st, T', rfl, _⟩ := h
      rfl
    obtain ⟨e, n, l, num, z, b, st, T', rfl, S, x, hz, hnum, hz9, h1000, hf, hlen, k⟩ := h
    refine ⟨_, pss_cons (ps_set (i := 4) scFixed.nd rfl (Or.inl rfl) (pe_meth (pv 0) T.cl T.level_of.m (ok_level_of T) (hr.mono (by omega)) T.level_of.b .nil pass0 (pa_cons (pv 1) pa_nil)))
      (pss_cons (ps_if (pt_cmpR op_gt (pv 4) (pv 2) (nomark _)) (pss_one (ps_ret (pv 1))) pss_nil)
      (pss_cons (ps_if (pt_cmpR op_eq (pv 4) (pv 2) (nomark _)) (pss_one (ps_ret (pe_ix ix_tup (pe_ix ix_tup (pe_ix ix_list (pe_fld (pv 0) rfl) (pv 1) (fun _ _ => rfl)) pe_int (fun _ _ => rfl)) (pv 3) (fun _ _ => rfl)))) pss_nil)
      (pss_one (ps_ret (pe_meth (pv 0) T.cl T.fork.m (ok_fork T) (hr.mono (by omega)) T.fork.b .nil pass0 (pa_cons (pv 4)
        (pa_cons (pe_lc (own := [("kid", 5)]) (g := gName 5) (tt := tYes) rfl scFixed.nd (pi_tup (pe_ix ix_tup (pe_ix ix_list (pe_fld (pv 0) rfl) (pv 1) (fun _ _ => rfl)) pe_int (fun _ _ => rfl)))
          (blkOk_by (N := ["self", "node", "level", "number", "here", "kid"]) (sc := defScope sFixed) (by decide +kernel)) (fun _ _ _ _ _ => pg_name (i := 5) scFixed.nd rfl (Or.inl rfl)) (fun _ _ _ _ _ => pts_nil)
          (fun _ _ _ _ _ => pe_meth (pv 0) T.cl T.fixed.m ih hr T.fixed.b .nil pass0 (pa_cons (pv 5) (pa_cons (pv 2) (pa_cons (pv 3) pa_nil))))) pa_nil))))))), ?_⟩
    obtain ⟨dx, hp⟩ := S.ob
    refine ⟨_, rfl, e.p, dx, _, rfl, hp, flds_level_of _ _ _, _, rfl, e, n, st, rfl, S, x.lt, ?_⟩
    have hb := x.lv
    have hN := lev_le S.wf n
    have hlN : l < e.szs.length := (List.getElem?_eq_some_iff.mp hz).1
    refine ⟨_, rfl, _, rfl, _, _, rfl, rfl, _, rfl, ?_⟩
    refine ite2 (fun c => ?_) (fun c => ?_)
    · have c' := of_decide_eq_true c
      refine ⟨_, rfl, ?_⟩
      exact k st n H (Ext.refl _) (Nat.le_add_right _ _) (x.congr fun s hs => (nd_indep S.wf x (by omega) hz hnum hs).symm) S (Kp.refl _ _)
    have c1 : ¬ (l : Int) < (lev e.szs.length st n : Nat) := fun z => c (decide_eq_true z)
    obtain ⟨ks, ek⟩ := fork_of_lev (szs := e.szs) (st := st) (n := n) (by omega)
    obtain ⟨as, a, hl, ha, R⟩ := S.at ek
    obtain ⟨t, t1, t2⟩ := R
    refine ⟨_, rfl, _, rfl, rfl, _, rfl, ?_⟩
    refine ite2 (fun c2 => ?_) (fun c2 => ?_)
    · have c3 := of_decide_eq_true c2
      have c4 : lev e.szs.length st n = l := by
        injection c3 with c3
        omega
      rw [c4] at ek
      have hk := (S.wf.fk n l ks ek).1
      have hk2 : num < ks.length := by
        rw [hk] at hz
        injection hz with hz
        omega
      have e3 : ks[num]? = some ks[num] := List.getElem?_eq_getElem hk2
      refine ⟨_, rfl, e.p, T.C, dx, _, _, rfl, hp, T.cl, T.nK, flds_kept _ _ _, _, rfl, e.lk, _, _, _, rfl, rfl, SqL.of hl, atI_nat ha, a, _, _, _, rfl, rfl, SqT.of t1, at2, _, rfl, t, _, _, _, rfl, rfl, SqT.of t2, atI_nat (vI_at e3), ?_⟩
      exact k st _ H (Ext.refl _) (Nat.le_add_right _ _) ((nd_kid S.wf x ek e3).low (by omega)) S (Kp.refl _ _)
    have c5 : lev e.szs.length st n < l := by
      have c3 : ¬ lev e.szs.length st n = l := fun q => c2 (decide_eq_true (by rw [q]))
      omega
    obtain ⟨f1, f2, f3⟩ := S.wf.fk n _ ks ek
    have hc1 := cst_at f1
    have hc2 := cst_mono S.wf.pos hb
    generalize hh : lev e.szs.length st n = h at *
    refine ⟨_, rfl, e.p, dx, _, rfl, hp, flds_fork _ _ _, _, rfl, _, rfl, e.p, T.C, dx, _, _, rfl, hp, T.cl, T.nK, flds_kept _ _ _, _, rfl, e.lk, _, _, _, rfl, rfl, SqL.of hl, atI_nat ha, a, _, _, _, rfl, rfl, SqT.of t1, at2, t, rfl, ⟨_, SqT.of t2⟩, fun D hD => ?_⟩
    refine lc_tup (xs := vI ks) (fun i H' => ∃ (sti : Sto) (ks' : List Nat), SAt P w T.C e H' sti ∧ Ext st sti ∧ sti.length ≤ st.length + i * cst (e.szs.drop (h + 1)) ∧ Kp e.ex H H' ∧ H' D = some (.lst (vI ks')) ∧ ks'.length = i ∧
      ∀ j y, ks'[j]? = some y → Nd e.szs sti (h + 1) y (fun s => T' ((s.set l num).set h j)))
      ⟨st, [], S.nw hD _, Ext.refl _, by omega, Kp.new hD _, upd_same, rfl, fun j y q => by simp at q⟩
      (fun i H' _ ⟨_, _, _, _, _, kp, _⟩ => SqT.of (kp.tup _ _ t2)) ?_ ?_
    · rintro i y H' hi ⟨sti, ks', Si, Ei, li, kp, hDi, hki, hG⟩
      obtain ⟨j, hj, rfl⟩ : ∃ j, ks[i]? = some j ∧ y = V.int (j : Int) := by
        rw [List.getElem?_map] at hi
        cases q : ks[i]? with
        | none => rw [q] at hi; cases hi
        | some j => rw [q] at hi; exact ⟨j, rfl, (Option.some.inj hi).symm⟩
      have hik : i < ks.length := (List.getElem?_eq_some_iff.mp hj).1
      have hmul : (i + 1) * cst (e.szs.drop (h + 1)) ≤ ks.length * cst (e.szs.drop (h + 1)) := Nat.mul_le_mul_right _ hik
      have hsuc : (i + 1) * cst (e.szs.drop (h + 1)) = i * cst (e.szs.drop (h + 1)) + cst (e.szs.drop (h + 1)) := Nat.succ_mul _ _
      obtain ⟨dx', hp'⟩ := Si.ob
      refine ⟨rfl, tYes_of ?_⟩
      refine iteT ?_
      refine ⟨_, rfl, e.p, dx', _, rfl, hp', flds_fixed _ _ _, _, rfl, _, rfl, _, rfl, e, j, l, num, z, h + 1, sti, _, rfl, Si, (nd_kid S.wf x ek hj).ext Ei, hz, hnum, hz9, h1000, by omega, by omega, fun st' n' H2 E1 E2 E3 S2 kp2 => ?_⟩
      have hD2 : H2 D = some (.lst (vI ks')) := kp2.lst hDi (S.own hD)
      refine ⟨_, hD2, ?_, st', ks' ++ [n'], S2.wl S hD hD2 _, Ei.trans E1, by omega, (kp.trans kp2).wrN hD hD2 _, ?_, by rw [List.length_append, hki]; rfl, fun j' y' q => ?_⟩
      · rw [List.length_map, hki]
        exact mill (by have := h1000 _ (List.mem_of_getElem? f1); omega)
      · rw [upd_same]
        show _ = some (HO.lst ((ks' ++ [n']).map _))
        rw [List.map_append]
        rfl
      · by_cases hlt : j' < ks'.length
        · rw [List.getElem?_append_left hlt] at q
          exact (hG j' y' q).ext E1
        · have ej : j' = ks'.length := by
            have z2 := (List.getElem?_eq_some_iff.mp q).1
            rw [List.length_append, List.length_singleton] at z2
            omega
          subst ej
          rw [List.getElem?_append_right (Nat.le_refl _), Nat.sub_self] at q
          have eq' : n' = y' := by simpa using q
          subst eq'
          rw [hki]
          exact E3
    · rintro H' ⟨sti, ks', Si, Ei, li, kp, hDi, hki, hG⟩
      have hlk : (vI ks).length = ks.length := List.length_map _
      rw [hlk] at hki li
      obtain ⟨dx', hp'⟩ := Si.ob
      refine ⟨e, h, D, ks', sti, fun j s => T' ((s.set l num).set h j), rfl, Si, SqL.of hDi, by omega, ?_, by rw [hki]; exact f1, hG, fun st' n' H2 E1 E2 E3 S2 kp2 => ?_⟩
      · rw [hki]
        exact h1000 _ (List.mem_of_getElem? f1)
      · refine k st' n' H2 (Ei.trans E1) (by omega) ((E3.low hb).congr fun s hs => ?_) S2 (kp.trans kp2)
        obtain ⟨i, hi, _⟩ := hs.at f1
        have eg : s.getD h 0 = i := by rw [List.getD_eq_getElem?_getD, hi]; rfl
        show T' ((s.set l num).set h (s.getD h 0)) = _
        rw [eg, set_swap (by omega) hi]
end
end Lots
end
section
set_option Elab.async false
set_option maxRecDepth 100000
set_option maxHeartbeats 4000000
namespace Lots
open PySem PySem.Spec PyProof.Rows L2
variable [TabP]
section
variable {P : Program} {w : World} {K : PySem.W.Frag} {mg : Str → Option Value} {base : Heap}
/-! ### __init__ -/
def spInit (P : Program) (w : World) (C : Addr) : Sp := fun vs H Q _ => ∃ (p dx b : Addr) (bs : List (Str × Nat)), vs = [.ref p, .ref b] ∧ H p = some (.ins C dx []) ∧ BoxAt H b bs ∧ (∀ y ∈ bs.map (·.2), 1 ≤ y) ∧
  ∀ (lk d : Addr) (H' : Hp), H lk = none → H d = none → SAt P w C ⟨p, lk, d, b, bs⟩ H' [] → (∀ a o, a ≠ p → H a = some o → H' a = some o) → (∀ a, H' a = none → H a = none) → Q .non H'
theorem scInit : FnScope ["self", "boxes"] ["self", "boxes"] (defScope sInit) := ⟨rfl, rfl, rfl, by decide +kernel, rfl, by decide +kernel, by decide +kernel⟩
theorem ok_init (T : Tx K mg) : FnOk P w K mg base CX0 1 T.init.f T.init.fd ["self", "boxes"] (spInit P w T.C) := by
  refine T.init.F.ok scInit (fun vs H Q E h => ?_) (fun cdv A outer s H vs Q E hr h => ?_)
  · obtain ⟨p, dx, b, bs, rfl, _⟩ := h
    rfl
  obtain ⟨p, dx, b, bs, rfl, hp, hb, h1, k⟩ := h
  refine ⟨_, pss_cons (ps_fld (pv 0) (pv 1) rfl) (pss_cons (ps_fld (pv 0) (pe_lst pa_nil) rfl) (pss_one (ps_fld (pv 0) pe_plNew rfl))), ?_⟩
  refine ⟨_, rfl, _, rfl, p, T.C, dx, [], rfl, hp, T.cl, T.nB, (by show 0 < 1000; decide), ?_⟩
  refine ⟨Nat.zero_le _, fun l hl => ?_⟩
  have npl : p ≠ l := fun z => by rw [z, upd_same] at hl; cases hl
  have hl0 : H l = none := by rw [upd_ne npl.symm] at hl; exact hl
  refine ⟨_, rfl, p, T.C, dx, _, rfl, Eq.trans (upd_ne npl) upd_same, T.cl, T.nK, (by show 1 < 1000; decide), ?_⟩
  intro d hd
  have npd : p ≠ d := fun z => by rw [z, upd_same] at hd; cases hd
  have nld : l ≠ d := fun z => by rw [z, upd_ne npd.symm, upd_same] at hd; cases hd
  have hd0 : H d = none := by rw [upd_ne npd.symm, upd_ne nld.symm, upd_ne npd.symm] at hd; exact hd
  refine ⟨_, rfl, p, T.C, dx, _, rfl, Eq.trans (upd_ne npd) upd_same, T.cl, T.nP, (by show 2 < 1000; decide), ?_⟩
  have tup : ∀ a o, a ≠ p → H a = some o → upd (upd (upd (upd (upd H p (.ins T.C dx (putF "boxes" (.ref b) []))) l (.lst [])) p (.ins T.C dx (putF "kept" (.ref l) (putF "boxes" (.ref b) [])))) d (PlO P w d [] [])) p (.ins T.C dx (flds b l d)) a = some o := fun a o np e => by
    rw [upd_ne np, upd_ne (ne_of_none e hd0), upd_ne np, upd_ne (ne_of_none e hl0), upd_ne np]
    exact e
  refine k l d _ hl0 hd0 ⟨⟨dx, upd_same⟩, ?_, ⟨[], ?_, ⟨?_, fun i r q => by simp at q, List.nodup_nil, rfl⟩⟩, ⟨List.nodup_nil, h1, fun i l ks q => by simp at q⟩⟩ tup fun a e => ?_
  · obtain ⟨as, b1, b2, b3⟩ := hb
    refine ⟨as, tup _ _ (ne_of b1 hp (fun z => nomatch z)) b1, b2, fun i nm z q => ?_⟩
    obtain ⟨c, c1, c2⟩ := b3 i nm z q
    exact ⟨c, c1, tup _ _ (ne_of c2 hp (fun z => nomatch z)) c2⟩
  · rw [upd_ne npl.symm, upd_ne nld, upd_ne npl.symm, upd_same]
    rfl
  · rw [upd_ne npd.symm, upd_same]
    rfl
  · cases q : H a with
    | none => rfl
    | some o =>
      by_cases ha : a = p
      · rw [ha, upd_same] at e
        cases e
      · have z := (tup a o ha q).symm.trans e
        cases z

/-! ### point -/
def spPoint (P : Program) (w : World) (C : Addr) : Sp := fun vs H Q _ => ∃ (e : En) (sa : Addr) (s : List Nat) (st : Sto), vs = [.ref e.p, .ref sa] ∧ SAt P w C e H st ∧ H sa = some (.tup (vI s)) ∧ Valid e.szs s ∧ (∀ y ∈ e.szs, y ≤ 100) ∧ e.szs.length ≤ 9 ∧ st.length + 1000 < 1000000 ∧
  ∀ (st' : Sto) (n : Nat) (H' : Hp), Ext st st' → st'.length ≤ st.length + 1000 → Nd e.szs st' 0 n (fun s' => if s' = s then (1, 1) else (0, 1)) → SAt P w C e H' st' → Kp e.ex H H' → Q (.int (n : Int)) H'
theorem scPoint : FnScope ["self", "state", "node", "level", "kids", "number"] ["self", "state"] (defScope sPoint) := ⟨rfl, rfl, rfl, by decide +kernel, rfl, by decide +kernel, by decide +kernel⟩
theorem flds_leaf (b l d : Addr) : (flds b l d).lookup ("leaf" : Str) = none := flds_no _ _ _ (by decide +kernel) (by decide +kernel) (by decide +kernel)
theorem ixN_n {n j : Nat} (hj : j < n) : ixN n (j : Int) = some j := by
  unfold ixN
  rw [if_pos (by omega), if_pos (by omega), Int.toNat_natCast]
theorem drop_eq_iff {s' s : List Nat} {l : Nat} (h1 : l < s'.length) (h2 : l < s.length) : s'.drop l = s.drop l ↔ s'[l]? = s[l]? ∧ s'.drop (l + 1) = s.drop (l + 1) := by
  rw [List.drop_eq_getElem_cons h1, List.drop_eq_getElem_cons h2, List.getElem?_eq_getElem h1, List.getElem?_eq_getElem h2, List.cons.injEq, Option.some.injEq]
theorem ok_point (T : Tx K mg) : FnOk P w K mg base CX0 3 T.point.f T.point.fd ["self", "state"] (spPoint P w T.C) := by
  refine T.point.F.ok scPoint (fun vs H Q E h => ?_) (fun cdv A outer s0 H vs Q E hr h => ?_)
  · obtain ⟨e, sa, s, st, rfl, _⟩ := h
    rfl
  obtain ⟨e, sa, s, st, rfl, S, hs, hv, h100, h9, hlen, k⟩ := h
  have GL := ok_leaf (P := P) (w := w) (base := base) T
  refine ⟨_, pss_cons (ps_set (i := 2) scPoint.nd rfl (Or.inl rfl) (pe_meth (pv 0) T.cl T.leaf.m GL hr T.leaf.b .nil pass0 (pa_cons (pe_tup (pa_cons pe_int (pa_cons pe_int pa_nil))) pa_nil)))
    (pss_cons (ps_for PassesOwn.never rfl (pi_range3 (by rfl) T.range (pa_cons (pe_op op_sub (pe_callB call_len_seq (by rfl) T.len PySem.boot_len (pa_cons (pe_fld (pv 0) rfl) pa_nil)) pe_int) (pa_cons (pe_un un_neg pe_int) (pa_cons (pe_un un_neg pe_int) pa_nil)))) (pg_name (i := 3) scPoint.nd rfl (Or.inl rfl))
      (pss_cons (ps_setLc (i := 4) (own := [("number", 5)]) (g := gName 5) (tt := tYes) rfl scPoint.nd rfl rfl (sw_true rfl rfl rfl (by decide +kernel)) (pi_range1 (by rfl) T.range (pa_cons (pe_ix ix_tup (pe_ix ix_tup (pe_fld (pv 0) rfl) (pv 3) (fun _ _ => rfl)) pe_int (fun _ _ => rfl)) pa_nil))
          (blkOk_by (N := ["self", "state", "node", "level", "kids", "number"]) (sc := defScope sPoint) (by decide +kernel)) (fun _ _ _ _ _ => pg_name (i := 5) scPoint.nd rfl (Or.inl rfl)) (fun _ _ _ _ _ => pts_nil)
          (fun _ _ _ _ _ => pe_meth (pv 0) T.cl T.leaf.m GL hr T.leaf.b .nil pass0 (pa_cons (pe_tup (pa_cons pe_int (pa_cons pe_int pa_nil))) pa_nil)))
      (pss_cons (ps_asg (pv 2) (pg_sub (pv 4) (pe_ix ix_tup (pv 1) (pv 3) (fun _ _ => rfl)) set_list))
      (pss_one (ps_set (i := 2) scPoint.nd rfl (Or.inl rfl) (pe_meth (pv 0) T.cl T.fork.m (ok_fork T) hr T.fork.b .nil pass0 (pa_cons (pv 3) (pa_cons (pv 4) pa_nil))))))))
    (pss_one (ps_ret (pv 2)))), ?_⟩
  obtain ⟨dx, hp⟩ := S.ob
  obtain ⟨bs, b1, b2, b3⟩ := S.bx
  have hbl : (bs.map V.ref).length = e.szs.length := by rw [List.length_map, List.length_map, b2]
  -- node = self.leaf((1, 1))
  refine ⟨_, rfl, e.p, dx, _, rfl, hp, flds_leaf _ _ _, (by show 2 ≤ sizeLine; decide), fun t ht => ?_⟩
  refine ⟨e, t, st, (1, 1), rfl, S.nw ht _, upd_same, by omega, fun st1 n1 H1 E1 L1 N1 S1 k1 => ?_⟩
  have kp1 : Kp e.ex H H1 := (Kp.new ht _).trans k1
  -- the range
  refine ⟨_, rfl, e.p, T.C, dx, _, _, rfl, kp1.ins _ _ _ _ hp, T.cl, T.nB, flds_boxes _ _ _, e.b, _, rfl, .inr (SqT.of (kp1.tup _ _ b1)), _, _, rfl, rfl, _, rfl, _, rfl, _, _, _, _, rfl, RgC.neg (by rw [hbl]; omega) (by rw [hbl]; omega) (by decide) (by decide), ?_⟩
  have hn : ((((bs.map V.ref).length : Nat) : Int) - 1 - -1).toNat = e.szs.length := by rw [hbl]; omega
  refine for_rangeC (fun i σ H' => i ≤ e.szs.length ∧ ∃ (sti : Sto) (ni : Nat) (v3 v4 v5 : Option V), σ = [some (.ref e.p), some (.ref sa), some (.int (ni : Int)), v3, v4, v5] ∧ SAt P w T.C e H' sti ∧ Ext st sti ∧ sti.length ≤ st.length + 1 + i * 101 ∧ Kp e.ex H H' ∧
      Nd e.szs sti (e.szs.length - i) ni (fun s' => if s'.drop (e.szs.length - i) = s.drop (e.szs.length - i) then (1, 1) else (0, 1)))
    ⟨Nat.zero_le _, st1, n1, _, _, _, rfl, S1, E1, by omega, kp1, N1.congr fun s' hs' => ?_⟩ ?_ ?_
  · rw [if_pos]
    rw [List.drop_eq_nil_of_le (by rw [hs'.1]; exact Nat.le_refl _), List.drop_eq_nil_of_le (by rw [hv.1]; exact Nat.le_refl _)]
  · rintro i σ H' hi ⟨_, sti, ni, v3, v4, v5, rfl, Si, Ei, li, kp, Ni⟩
    rw [hn] at hi
    obtain ⟨l, hl⟩ : ∃ l, l + i + 1 = e.szs.length := ⟨e.szs.length - 1 - i, by omega⟩
    have hval : ((((bs.map V.ref).length : Nat) : Int) - 1 + ((i : Nat) : Int) * -1) = (l : Int) := by rw [hbl]; omega
    rw [hval]
    have el : e.szs.length - i = l + 1 := by omega
    have el2 : e.szs.length - (i + 1) = l := by omega
    rw [el] at Ni
    have hll : l < e.szs.length := by omega
    have hz : e.szs[l]? = some e.szs[l] := List.getElem?_eq_getElem hll
    generalize e.szs[l] = z at hz
    obtain ⟨sl, hsl, hslz⟩ := hv.at hz
    have hz100 := h100 z (List.mem_of_getElem? hz)
    obtain ⟨dx', hp'⟩ := Si.ob
    obtain ⟨⟨nm, z'⟩, hbx, hzz⟩ : ∃ q, e.bs[l]? = some q ∧ q.2 = z := by
      rw [List.getElem?_map] at hz
      cases q : e.bs[l]? with
      | none => rw [q] at hz; cases hz
      | some r => rw [q] at hz; exact ⟨r, rfl, Option.some.inj hz⟩
    have hzz : z' = z := hzz
    subst hzz
    obtain ⟨ba, ha1, ha2⟩ := b3 l nm z' hbx
    refine ⟨_, rfl, e.p, T.C, dx', _, _, rfl, hp', T.cl, T.nB, flds_boxes _ _ _, _, rfl, e.b, _, _, _, rfl, rfl, SqT.of (kp.tup _ _ b1), atI_nat (by rw [List.getElem?_map, ha1]; rfl), ba, _, _, _, rfl, rfl, SqT.of (kp.tup _ _ ha2), at1, _, rfl, by omega, by omega, fun D hD => ?_⟩
    refine lc_range (lo := 0) (n := z') (fun j H2 => ∃ (sj : Sto) (ks : List Nat), SAt P w T.C e H2 sj ∧ Ext sti sj ∧ sj.length ≤ sti.length + j ∧ Kp e.ex H' H2 ∧ H2 D = some (.lst (vI ks)) ∧ ks.length = j ∧ ∀ y ∈ ks, Nd e.szs sj e.szs.length y (fun _ => (0, 1)))
      ⟨sti, [], Si.nw hD _, Ext.refl _, Nat.le_refl _, Kp.new hD _, upd_same, rfl, fun y q => by simp at q⟩ ?_ ?_
    · rintro j H2 hj ⟨sj, ks, Sj, Ej, lj, kj, hDj, hkj, hG⟩
      obtain ⟨dx2, hp2⟩ := Sj.ob
      refine ⟨rfl, tYes_of ?_⟩
      refine iteT ?_
      refine ⟨_, rfl, e.p, dx2, _, rfl, hp2, flds_leaf _ _ _, (by show 2 ≤ sizeLine; decide), fun t ht => ?_⟩
      refine ⟨e, t, sj, (0, 1), rfl, Sj.nw ht _, upd_same, by omega, fun st' n' H3 E1 L1 N1 S3 k3 => ?_⟩
      have hD3 : H3 D = some (.lst (vI ks)) := k3.lst (by rw [upd_ne (ne_of_none hDj ht)]; exact hDj) (Si.own hD)
      refine ⟨_, hD3, by rw [List.length_map, hkj]; exact mill (by omega), st', ks ++ [n'], S3.wl Si hD hD3 _, Ej.trans E1, by omega, (kj.trans ((Kp.new ht _).trans k3)).wrN hD hD3 _, ?_, by rw [List.length_append, hkj]; rfl, fun y q => ?_⟩
      · rw [upd_same]
        show _ = some (HO.lst ((ks ++ [n']).map _))
        rw [List.map_append]
        rfl
      · rcases List.mem_append.mp q with q | q
        · exact (hG y q).ext E1
        · rw [List.mem_singleton.mp q]
          exact N1
    · rintro H2 ⟨sj, ks, Sj, Ej, lj, kj, hDj, hkj, hG⟩
      refine ⟨_, rfl, _, rfl, _, rfl, _, rfl, sa, _, _, _, rfl, rfl, SqT.of ((kp.trans kj).tup _ _ hs), atI_nat (vI_at hsl), D, _, _, sl, rfl, rfl, hDj, ixN_n (by rw [List.length_map, hkj]; exact hslz), ?_⟩
      have S3 := Sj.wl Si hD hDj (.lst ((vI ks).set sl (.int (ni : Int))))
      have k3 : Kp e.ex H (upd H2 D (.lst ((vI ks).set sl (.int (ni : Int))))) := kp.trans (kj.wrN hD hDj _)
      obtain ⟨dx3, hp3⟩ := S3.ob
      have hL : upd H2 D (.lst ((vI ks).set sl (.int (ni : Int)))) D = some (.lst (vI (ks.set sl ni))) := by
        rw [upd_same]
        show _ = some (HO.lst ((ks.set sl ni).map _))
        rw [List.map_set]
      refine ⟨_, rfl, e.p, dx3, _, rfl, hp3, flds_fork _ _ _, _, rfl, _, rfl, e, l, D, ks.set sl ni, sj, fun j s' => if j = sl then (if s'.drop (l + 1) = s.drop (l + 1) then (1, 1) else (0, 1)) else (0, 1), rfl, S3, SqL.of hL, by omega, by rw [List.length_set]; omega, by rw [List.length_set, hkj]; exact hz, fun j y q => ?_, fun st' n' H3 E1 L1 N1 S4 k4 => ?_⟩
      · by_cases hjs : j = sl
        · subst hjs
          rw [List.getElem?_set_self (by rw [hkj]; exact hslz)] at q
          cases q
          exact (Ni.ext Ej).congr fun s' _ => (if_pos rfl).symm
        · rw [List.getElem?_set_ne (Ne.symm hjs)] at q
          exact ((hG y (List.mem_of_getElem? q)).low (by omega)).congr fun s' _ => (if_neg hjs).symm
      · refine ⟨by omega, st', n', _, _, _, rfl, S4, Ei.trans (Ej.trans E1), by omega, k3.trans k4, ?_⟩
        rw [el2]
        refine N1.congr fun s' hs' => ?_
        obtain ⟨i', hi', _⟩ := hs'.at hz
        have eg : s'.getD l 0 = i' := by rw [List.getD_eq_getElem?_getD, hi']; rfl
        have hd := drop_eq_iff (s' := s') (s := s) (l := l) (by rw [hs'.1]; exact hll) (by rw [hv.1]; exact hll)
        rw [hi', hsl, Option.some.injEq] at hd
        show (if s'.getD l 0 = sl then (if s'.drop (l + 1) = s.drop (l + 1) then (1, 1) else (0, 1)) else (0, 1) : Frac) = if s'.drop l = s.drop l then (1, 1) else (0, 1)
        rw [eg]
        by_cases h1 : i' = sl
        · rw [if_pos h1]
          by_cases h2 : s'.drop (l + 1) = s.drop (l + 1)
          · rw [if_pos h2, if_pos (hd.mpr ⟨h1, h2⟩)]
          · rw [if_neg h2, if_neg fun q => h2 (hd.mp q).2]
        · rw [if_neg h1, if_neg fun q => h1 (hd.mp q).1]
  · rintro σ H' ⟨_, sti, ni, v3, v4, v5, rfl, Si, Ei, li, kp, Ni⟩
    rw [hn] at li Ni
    refine ⟨_, rfl, ?_⟩
    refine k sti ni H' Ei (by omega) ((Ni.low (Nat.zero_le _)).congr fun s' _ => ?_) Si kp
    rw [Nat.sub_self, List.drop_zero, List.drop_zero]
end
end Lots
end
section
set_option Elab.async false
set_option maxRecDepth 100000
set_option maxHeartbeats 4000000
namespace Lots
open PySem PySem.Spec PyProof.Rows L2
variable [TabP]
/-- in a comprehension's block the written part is the def's -/
theorem ixT {X : Cx} (K : PySem.W.Frag) (h : X.K = K) : IxR X (rIxT K) := h ▸ ix_tup
theorem ixL {X : Cx} (K : PySem.W.Frag) (h : X.K = K) : IxR X (rIxL K) := h ▸ ix_list
theorem opIn {X : Cx} (K : PySem.W.Frag) (h : X.K = K) : OpR X (compareOp .In) (rIn K false) := h ▸ op_in_seq
/-! ### tests -/
inductive Opn where
  | num (i : Int)
  | nam (x : Str)
  deriving DecidableEq
inductive Sg where
  | eq
  | lt
  | ne
structure Tst where
  a : Opn
  g : Sg
  b : Opn
def opV : Opn → V
  | .num i => .int i
  | .nam x => .str x
def sgS : Sg → Str
  | .eq => "="
  | .lt => "<"
  | .ne => "#"
abbrev Bxs := List (Str × Nat)
def ix (bs : Bxs) (x : Str) : Nat := bs.findIdx fun q => decide (q.1 = x)
def wo (bs : Bxs) (s : List Nat) : Opn → Int
  | .num i => i
  | .nam x => ((s.getD (ix bs x) 0 : Nat) : Int)
def hol (bs : Bxs) (s : List Nat) (t : Tst) : Bool := match t.g with
  | .eq => decide (wo bs s t.a = wo bs s t.b)
  | .lt => decide (wo bs s t.a < wo bs s t.b)
  | .ne => !decide (wo bs s t.a = wo bs s t.b)
def OpOk (bs : Bxs) : Opn → Prop
  | .num _ => True
  | .nam x => ∃ q ∈ bs, q.1 = x
def TstAt (H : Hp) (a : Addr) (t : Tst) : Prop := H a = some (.tup [opV t.a, .str (sgS t.g), opV t.b])
theorem ix_lt {bs : Bxs} {x : Str} (h : ∃ q ∈ bs, q.1 = x) : ix bs x < bs.length := by
  obtain ⟨q, hq, e⟩ := h
  exact List.findIdx_lt_length_of_exists ⟨q, hq, decide_eq_true e⟩
theorem ix_at {bs : Bxs} {x : Str} (h : ∃ q ∈ bs, q.1 = x) : ∃ z, bs[ix bs x]? = some (x, z) := by
  have hl := ix_lt h
  have e : decide (bs[ix bs x].1 = x) = true := List.findIdx_getElem (w := hl)
  refine ⟨bs[ix bs x].2, ?_⟩
  rw [List.getElem?_eq_getElem hl]
  have e2 := of_decide_eq_true e
  generalize bs[ix bs x] = q at e2
  obtain ⟨a, b⟩ := q
  have e2 : a = x := e2
  subst e2
  rfl
theorem ix_first {bs : Bxs} {x : Str} {m : Nat} {q : Str × Nat} (h : m < ix bs x) (e : bs[m]? = some q) : ¬ q.1 = x := by
  have hl := (List.getElem?_eq_some_iff.mp e).1
  have z := List.not_of_lt_findIdx h
  have z2 : bs[m] = q := (List.getElem?_eq_some_iff.mp e).2
  intro c
  rw [z2, decide_eq_true c] at z
  cases z
/-- names of tuples -/
theorem box_nm {H : Hp} {bs : Bxs} {as : List Addr} (h3 : ∀ (i : Nat) (nm : Str) (z : Nat), bs[i]? = some (nm, z) → ∃ a, as[i]? = some a ∧ H a = some (.tup [.str nm, .int (z : Int)])) (h2 : as.length = bs.length) {i : Nat} {v : V} (e : (as.map V.ref)[i]? = some v) :
    ∃ nm z a, bs[i]? = some (nm, z) ∧ v = .ref a ∧ H a = some (.tup [.str nm, .int (z : Int)]) := by
  have hi : i < bs.length := by
    have q := (List.getElem?_eq_some_iff.mp e).1
    rw [List.length_map] at q
    omega
  obtain ⟨a, e1, e2⟩ := h3 i bs[i].1 bs[i].2 (List.getElem?_eq_getElem hi)
  rw [List.getElem?_map, e1] at e
  exact ⟨_, _, a, List.getElem?_eq_getElem hi, (Option.some.inj e).symm, e2⟩

section
variable {P : Program} {w : World} {K : PySem.W.Frag} {mg : Str → Option Value} {base : Heap}
/-! ### divisor, fraction: of 0 or 1 -/
def b01 (c : Bool) : Int := if c = true then 1 else 0
def spDivisor : Sp := fun vs H Q _ => ∃ c : Bool, vs = [.int (b01 c), .int 1] ∧ Q (.int 1) H
theorem scDivisor : FnScope ["one", "other"] ["one", "other"] (defScope sDivisor) := ⟨rfl, rfl, rfl, by decide +kernel, rfl, by decide +kernel, by decide +kernel⟩
theorem ok_divisor (T : Tx K mg) : FnOk P w K mg base CX0 1 T.divisor.f T.divisor.fd ["one", "other"] spDivisor := by
  refine T.divisor.F.ok scDivisor (fun vs H Q E h => ?_) (fun cdv A outer s H vs Q E hr h => ?_)
  · obtain ⟨c, rfl, _⟩ := h
    rfl
  obtain ⟨c, rfl, k⟩ := h
  refine ⟨_, pss_cons (ps_set (i := 0) scDivisor.nd rfl (Or.inl rfl) (pe_callB call_abs (by rfl) T.abs (by decide +kernel) (pa_cons (pv 0) pa_nil)))
    (pss_cons (ps_set (i := 1) scDivisor.nd rfl (Or.inl rfl) (pe_callB call_abs (by rfl) T.abs (by decide +kernel) (pa_cons (pv 1) pa_nil)))
    (pss_cons (ps_while PassesOwn.never (pt_cmpR op_gt (pv 1) pe_int (nomark _)) (pss_one (ps_par (i := 0) (j := 1) (by rfl) scDivisor.nd rfl rfl (by decide) rfl rfl (pa_cons (pv 1) (pa_cons (pe_op op_mod (pv 0) (pv 1)) pa_nil)) (by rfl))))
    (pss_one (ps_ret (pv 0))))), ?_⟩
  have h0 : (if b01 c < 0 then -b01 c else b01 c) = b01 c := by cases c <;> rfl
  refine ⟨_, rfl, _, rfl, ?_⟩
  rw [h0]
  refine ⟨_, rfl, _, rfl, ?_⟩
  refine ⟨fun m σ H' => H' = H ∧ ((σ = [some (.int (b01 c)), some (.int 1)] ∧ m = 1) ∨ (σ = [some (.int 1), some (.int 0)] ∧ m = 0)), ⟨1, rfl, .inl ⟨rfl, rfl⟩⟩, fun m σ H' h => ?_⟩
  obtain ⟨rfl, ⟨rfl, rfl⟩ | ⟨rfl, rfl⟩⟩ := h
  · refine ⟨_, rfl, _, _, rfl, rfl, _, rfl, ?_⟩
    refine ite2 (fun _ => ?_) (fun z => absurd (by decide) z)
    refine ⟨fun σ' H' => H' = _ ∧ σ' = [some (.int 1), some (.int 0)], fun σ' H' q => ⟨0, by decide, q.1, .inr ⟨q.2, rfl⟩⟩, ?_⟩
    refine ⟨_, rfl, _, rfl, _, rfl, _, _, rfl, rfl, (by show (0 : Int) < 1; decide), _, _, rfl, rfl, ?_⟩
    have e : b01 c % 1 = 0 := by cases c <;> rfl
    show [some (V.int 1), some (V.int (b01 c % 1))] = _
    rw [e]
  · refine ⟨_, rfl, _, _, rfl, rfl, _, rfl, ?_⟩
    refine ite2 (fun z => absurd z (by decide)) (fun _ => ?_)
    exact ⟨_, rfl, k⟩
def spFraction : Sp := fun vs H Q _ => ∃ c : Bool, vs = [.int (b01 c), .int 1] ∧ ∀ t, H t = none → Q (.ref t) (upd H t (.tup [.int (b01 c), .int 1]))
theorem scFraction : FnScope ["top", "bottom", "most"] ["top", "bottom"] (defScope sFraction) := ⟨rfl, rfl, rfl, by decide +kernel, rfl, by decide +kernel, by decide +kernel⟩
theorem ok_fraction (T : Tx K mg) : FnOk P w K mg base CX0 2 T.fraction.f T.fraction.fd ["top", "bottom"] spFraction := by
  refine T.fraction.F.ok scFraction (fun vs H Q E h => ?_) (fun cdv A outer s H vs Q E hr h => ?_)
  · obtain ⟨c, rfl, _⟩ := h
    rfl
  obtain ⟨c, rfl, k⟩ := h
  refine ⟨_, pss_cons (ps_if (pt_cmpR op_eq (pv 1) pe_int (nomark _)) (pss_one ps_never) pss_nil)
    (pss_cons (ps_if (pt_cmpR op_lt (pv 1) pe_int (nomark _)) pss_never pss_nil)
    (pss_cons (ps_set (i := 2) scFraction.nd rfl (Or.inl rfl) (pe_call (ok_divisor T) hr rfl T.divisor.m T.divisor.F.kp T.divisor.b .nil pass0 (pa_cons (pv 0) (pa_cons (pv 1) pa_nil))))
    (pss_one (ps_ret (pe_tup (pa_cons (pe_op op_fdiv (pv 0) (pv 2)) (pa_cons (pe_op op_fdiv (pv 1) (pv 2)) pa_nil))))))), ?_⟩
  refine ⟨_, rfl, rfl, _, rfl, ?_⟩
  refine ite2 (fun z => absurd z (by decide)) (fun _ => ?_)
  refine ⟨_, rfl, _, _, rfl, rfl, _, rfl, ?_⟩
  refine ite2 (fun z => absurd z (by decide)) (fun _ => ?_)
  refine ⟨_, rfl, _, rfl, c, rfl, ?_⟩
  refine ⟨_, rfl, _, rfl, _, _, rfl, rfl, ⟨by decide, by decide⟩, _, rfl, _, rfl, _, _, rfl, rfl, ⟨by decide, by decide⟩, (by show 2 ≤ sizeLine; decide), fun t ht => ?_⟩
  have e : b01 c / 1 = b01 c := Int.ediv_one _
  have e1 : (1 : Int) / 1 = 1 := rfl
  show Q (.ref t) (upd H t (.tup [.int (b01 c / 1), .int (1 / 1)]))
  rw [e, e1]
  exact k t ht
/-! ### start_of, place_of, worth, holds, levels_of -/
def spStart : Sp := fun vs H Q _ => ∃ (b : Addr) (bs : Bxs), vs = [.ref b] ∧ BoxAt H b bs ∧ bs.length ≤ 1000 ∧ ∀ t H', Kp [] H H' → H' t = some (.tup (vI (bs.map fun _ => 0))) → Q (.ref t) H'
theorem scStart : FnScope ["boxes", "box"] ["boxes"] (defScope sStart) := ⟨rfl, rfl, rfl, by decide +kernel, rfl, by decide +kernel, by decide +kernel⟩
theorem ok_start (T : Tx K mg) : FnOk P w K mg base CX0 1 T.start.f T.start.fd ["boxes"] spStart := by
  refine T.start.F.ok scStart (fun vs H Q E h => ?_) (fun cdv A outer s H vs Q E hr h => ?_)
  · obtain ⟨b, bs, rfl, _⟩ := h
    rfl
  obtain ⟨b, bs, rfl, ⟨as, b1, b2, b3⟩, hl, k⟩ := h
  refine ⟨_, pss_one (ps_ret (pe_callTy call_tuple_of (by rfl) T.tuple (by decide +kernel) (pa_cons (pe_lc (own := [("box", 1)]) (g := gName 1) (tt := tYes) rfl scStart.nd (pi_tup (pv 0))
    (blkOk_by (N := ["boxes", "box"]) (sc := defScope sStart) (by decide +kernel)) (fun _ _ _ _ _ => pg_name (i := 1) scStart.nd rfl (Or.inl rfl)) (fun _ _ _ _ _ => pts_nil) (fun _ _ _ _ _ => pe_int)) pa_nil))), ?_⟩
  refine ⟨_, rfl, b, rfl, ⟨_, SqT.of b1⟩, fun D hD => ?_⟩
  refine lc_tup (xs := as.map V.ref) (fun i H' => Kp [] H H' ∧ H' D = some (.lst (vI ((bs.take i).map fun _ => 0)))) ⟨Kp.new hD _, upd_same⟩ (fun i H' _ ⟨kp, _⟩ => SqT.of (kp.tup _ _ b1)) ?_ ?_
  · rintro i y H' hi ⟨kp, hDi⟩
    refine ⟨rfl, tYes_of ?_⟩
    refine iteT ?_
    have hib : i < bs.length := by
      have := (List.getElem?_eq_some_iff.mp hi).1
      rw [List.length_map] at this
      omega
    refine ⟨_, hDi, ?_, kp.wrN hD hDi _, ?_⟩
    · rw [List.length_map, List.length_map, List.length_take]
      exact mill (by omega)
    · rw [upd_same, List.take_add_one, List.getElem?_eq_getElem hib]
      show _ = some (HO.lst ((((bs.take i) ++ [bs[i]]).map _).map _))
      rw [List.map_append, List.map_append]
      rfl
  · rintro H' ⟨kp, hDi⟩
    have e : bs.take (as.map V.ref).length = bs := List.take_of_length_le (by rw [List.length_map]; omega)
    rw [e] at hDi
    refine ⟨D, _, rfl, .inl ⟨SqL.of hDi, fun t ht => k t _ (kp.trans (Kp.new ht _)) upd_same⟩⟩
def spPlace : Sp := fun vs H Q _ => ∃ (b : Addr) (bs : Bxs) (x : Str), vs = [.ref b, .str x] ∧ BoxAt H b bs ∧ bs.length ≤ 1000 ∧ (∃ q ∈ bs, q.1 = x) ∧ ∀ H', Kp [] H H' → Q (.int ((ix bs x : Nat) : Int)) H'
theorem scPlace : FnScope ["boxes", "name", "box"] ["boxes", "name"] (defScope sPlace) := ⟨rfl, rfl, rfl, by decide +kernel, rfl, by decide +kernel, by decide +kernel⟩
theorem ok_place (T : Tx K mg) : FnOk P w K mg base CX0 1 T.place.f T.place.fd ["boxes", "name"] spPlace := by
  refine T.place.F.ok scPlace (fun vs H Q E h => ?_) (fun cdv A outer s H vs Q E hr h => ?_)
  · obtain ⟨b, bs, x, rfl, _⟩ := h
    rfl
  obtain ⟨b, bs, x, rfl, ⟨as, b1, b2, b3⟩, hl, hx, k⟩ := h
  refine ⟨_, pss_one (ps_ret (pe_bm PySem.F.plainAttrs_list PySem.F.slot_list_index PySem.F.type_list_index mt_index (pe_lc (own := [("box", 2)]) (g := gName 2) (tt := tYes) rfl scPlace.nd (pi_tup (pv 0))
    (blkOk_by (N := ["boxes", "name", "box"]) (sc := defScope sPlace) (by decide +kernel)) (fun _ _ _ _ _ => pg_name (i := 2) scPlace.nd rfl (Or.inl rfl)) (fun _ _ _ _ _ => pts_nil) (fun _ _ _ _ _ => pe_ix (ixT K rfl) (pv 2) pe_int (fun _ _ => rfl))) (pa_cons (pv 1) pa_nil))), ?_⟩
  refine ⟨_, rfl, b, rfl, ⟨_, SqT.of b1⟩, fun D hD => ?_⟩
  refine lc_tup (xs := as.map V.ref) (fun i H' => Kp [] H H' ∧ H' D = some (.lst ((bs.take i).map fun q => V.str q.1))) ⟨Kp.new hD _, upd_same⟩ (fun i H' _ ⟨kp, _⟩ => SqT.of (kp.tup _ _ b1)) ?_ ?_
  · rintro i y H' hi ⟨kp, hDi⟩
    obtain ⟨nm, z, a, e1, rfl, e3⟩ := box_nm b3 b2 hi
    have hib := (List.getElem?_eq_some_iff.mp e1).1
    refine ⟨rfl, tYes_of ?_⟩
    refine iteT ?_
    refine ⟨_, rfl, a, _, _, _, rfl, rfl, SqT.of (kp.tup _ _ e3), at0, _, hDi, ?_, kp.wrN hD hDi _, ?_⟩
    · rw [List.length_map, List.length_take]
      exact mill (by omega)
    · rw [upd_same, List.take_add_one, e1]
      show _ = some (HO.lst (((bs.take i) ++ [(nm, z)]).map _))
      rw [List.map_append]
      rfl
  · rintro H' ⟨kp, hDi⟩
    have e : bs.take (as.map V.ref).length = bs := List.take_of_length_le (by rw [List.length_map]; omega)
    rw [e] at hDi
    obtain ⟨z, ez⟩ := ix_at hx
    refine ⟨.inl ⟨rfl, _, SqL.of hDi⟩, _, rfl, D, _, .str x, ix bs x, .str x, rfl, rfl, SqL.of hDi, rfl, ?_, by rw [List.getElem?_map, ez]; rfl, beq_self_eq_true x, fun m z' hm hz' => ?_, k H' kp⟩
    · rw [List.all_map]
      exact List.all_eq_true.mpr fun _ _ => rfl
    · rw [List.getElem?_map] at hz'
      cases q : bs[m]? with
      | none => rw [q] at hz'; cases hz'
      | some r =>
        rw [q] at hz'
        cases hz'
        exact beq_eq_false_iff_ne.mpr (ix_first hm q)
def spWorth : Sp := fun vs H Q _ => ∃ (b sa : Addr) (bs : Bxs) (s : List Nat) (o : Opn), vs = [.ref b, .ref sa, opV o] ∧ BoxAt H b bs ∧ bs.length ≤ 1000 ∧ H sa = some (.tup (vI s)) ∧ s.length = bs.length ∧ OpOk bs o ∧ ∀ H', Kp [] H H' → Q (.int (wo bs s o)) H'
theorem scWorth : FnScope ["boxes", "state", "operand"] ["boxes", "state", "operand"] (defScope sWorth) := ⟨rfl, rfl, rfl, by decide +kernel, rfl, by decide +kernel, by decide +kernel⟩
theorem boot_str' : bootBuiltins "str" = some (.type "str") := by decide +kernel
theorem boot_isi' : bootBuiltins "isinstance" = some (.builtin "isinstance") := by decide +kernel
theorem ok_worth (T : Tx K mg) : FnOk P w K mg base CX0 2 T.worth.f T.worth.fd ["boxes", "state", "operand"] spWorth := by
  refine T.worth.F.ok scWorth (fun vs H Q E h => ?_) (fun cdv A outer s0 H vs Q E hr h => ?_)
  · obtain ⟨b, sa, bs, s, o, rfl, _⟩ := h
    rfl
  obtain ⟨b, sa, bs, s, o, rfl, B, hl, hs, hsl, ho, k⟩ := h
  refine ⟨_, pss_cons (ps_if (pt_val (pe_callB call_isi (by rfl) T.isi boot_isi' (pa_cons (pv 2) (pa_cons (pe_bltn (v := .ty "str") (by rfl) T.str boot_str' rfl) pa_nil)))) (pss_one (ps_ret (pe_ix ix_tup (pv 1) (pe_call (ok_place T) hr rfl T.place.m T.place.F.kp T.place.b .nil pass0 (pa_cons (pv 0) (pa_cons (pv 2) pa_nil))) (fun _ _ => rfl)))) pss_nil)
    (pss_one (ps_ret (pv 2))), ?_⟩
  cases o with
  | num i =>
    refine ⟨_, rfl, _, .ty "str", .type "int", .type "str", false, rfl, .ty _, .base (.int _), kit_ty (by decide +kernel), _, rfl, ?_⟩
    refine iteF ?_
    exact ⟨_, rfl, k H (Kp.refl _ _)⟩
  | nam x =>
    refine ⟨_, rfl, _, .ty "str", .type "str", .type "str", true, rfl, .ty _, .base (.str _), kit_ty (by decide +kernel), _, rfl, ?_⟩
    refine iteT ?_
    have ho : ∃ q ∈ bs, q.1 = x := ho
    refine ⟨_, rfl, _, rfl, _, rfl, b, bs, x, rfl, B, hl, ho, fun H' kp => ?_⟩
    have hi := ix_lt ho
    have e1 : s[ix bs x]? = some s[ix bs x] := List.getElem?_eq_getElem (by omega)
    have e2 : wo bs s (.nam x) = (s[ix bs x] : Nat) := by
      show ((s.getD (ix bs x) 0 : Nat) : Int) = _
      rw [List.getD_eq_getElem?_getD, e1]
      rfl
    rw [e2] at k
    exact ⟨sa, _, _, _, rfl, rfl, SqT.of (kp.tup _ _ hs), atI_nat (vI_at e1), k H' kp⟩
def spHolds : Sp := fun vs H Q _ => ∃ (b sa ta : Addr) (bs : Bxs) (s : List Nat) (t : Tst), vs = [.ref b, .ref sa, .ref ta] ∧ BoxAt H b bs ∧ bs.length ≤ 1000 ∧ H sa = some (.tup (vI s)) ∧ s.length = bs.length ∧ TstAt H ta t ∧ OpOk bs t.a ∧ OpOk bs t.b ∧ ∀ H', Kp [] H H' → Q (.bl (hol bs s t)) H'
theorem scHolds : FnScope ["boxes", "state", "test", "one", "other"] ["boxes", "state", "test"] (defScope sHolds) := ⟨rfl, rfl, rfl, by decide +kernel, rfl, by decide +kernel, by decide +kernel⟩
theorem sg1 : ¬ (V.str ("<" : Str) = V.str ("=" : Str)) := by decide +kernel
theorem sg2 : ¬ (V.str ("#" : Str) = V.str ("=" : Str)) := by decide +kernel
theorem sg3 : ¬ (V.str ("#" : Str) = V.str ("<" : Str)) := by decide +kernel
theorem dec_vi (i j : Int) : decide (V.int i = V.int j) = decide (i = j) := by
  by_cases h : i = j
  · rw [decide_eq_true h, decide_eq_true (by rw [h])]
  · rw [decide_eq_false h, decide_eq_false fun z => h (by injection z)]
theorem ok_holds (T : Tx K mg) : FnOk P w K mg base CX0 3 T.holds.f T.holds.fd ["boxes", "state", "test"] spHolds := by
  refine T.holds.F.ok scHolds (fun vs H Q E h => ?_) (fun cdv A outer s0 H vs Q E hr h => ?_)
  · obtain ⟨b, sa, ta, bs, s, t, rfl, _⟩ := h
    rfl
  obtain ⟨b, sa, ta, bs, s, t, rfl, B, hl, hs, hsl, ht, oa, ob, k⟩ := h
  refine ⟨_, pss_cons (ps_set (i := 3) scHolds.nd rfl (Or.inl rfl) (pe_call (ok_worth T) hr rfl T.worth.m T.worth.F.kp T.worth.b .nil pass0 (pa_cons (pv 0) (pa_cons (pv 1) (pa_cons (pe_ix ix_tup (pv 2) pe_int (fun _ _ => rfl)) pa_nil)))))
    (pss_cons (ps_set (i := 4) scHolds.nd rfl (Or.inl rfl) (pe_call (ok_worth T) hr rfl T.worth.m T.worth.F.kp T.worth.b .nil pass0 (pa_cons (pv 0) (pa_cons (pv 1) (pa_cons (pe_ix ix_tup (pv 2) pe_int (fun _ _ => rfl)) pa_nil)))))
    (pss_cons (ps_if (pt_cmpR op_eq (pe_ix ix_tup (pv 2) pe_int (fun _ _ => rfl)) pe_str (nomark _)) (pss_one (ps_ret (pe_cmpR op_eq (pv 3) (pv 4) (nomark _)))) pss_nil)
    (pss_cons (ps_if (pt_cmpR op_eq (pe_ix ix_tup (pv 2) pe_int (fun _ _ => rfl)) pe_str (nomark _)) (pss_one (ps_ret (pe_cmpR op_lt (pv 3) (pv 4) (nomark _)))) pss_nil)
    (pss_one (ps_ret (pe_cmpR op_ne (pv 3) (pv 4) (nomark _))))))), ?_⟩
  refine ⟨_, rfl, _, rfl, _, rfl, ta, _, _, _, rfl, rfl, SqT.of ht, at0, b, sa, bs, s, t.a, rfl, B, hl, hs, hsl, oa, fun H1 k1 => ?_⟩
  refine ⟨_, rfl, _, rfl, _, rfl, ta, _, _, _, rfl, rfl, SqT.of (k1.tup _ _ ht), at2, b, sa, bs, s, t.b, rfl, B.kp k1, hl, k1.tup _ _ hs, hsl, ob, fun H2 k2 => ?_⟩
  have ht2 := k2.tup _ _ (k1.tup _ _ ht)
  obtain ⟨ta', tg, tb⟩ := t
  cases tg with
  | eq =>
    refine ⟨_, rfl, ta, _, _, _, rfl, rfl, SqT.of ht2, at1, rfl, _, rfl, ?_⟩
    refine ite2 (fun _ => ?_) (fun z => absurd (decide_eq_true rfl) z)
    refine ⟨_, rfl, _, rfl, rfl, ?_⟩
    have e := k H2 (k1.trans k2)
    rw [show hol bs s ⟨ta', .eq, tb⟩ = decide (V.int (wo bs s ta') = V.int (wo bs s tb)) from (dec_vi _ _).symm] at e
    exact e
  | lt =>
    refine ⟨_, rfl, ta, _, _, _, rfl, rfl, SqT.of ht2, at1, rfl, _, rfl, ?_⟩
    refine ite2 (fun z => absurd (of_decide_eq_true z) sg1) (fun _ => ?_)
    refine ⟨_, rfl, ta, _, _, _, rfl, rfl, SqT.of ht2, at1, rfl, _, rfl, ?_⟩
    refine ite2 (fun _ => ?_) (fun z => absurd (decide_eq_true rfl) z)
    exact ⟨_, rfl, _, rfl, _, _, rfl, rfl, k H2 (k1.trans k2)⟩
  | ne =>
    refine ⟨_, rfl, ta, _, _, _, rfl, rfl, SqT.of ht2, at1, rfl, _, rfl, ?_⟩
    refine ite2 (fun z => absurd (of_decide_eq_true z) sg2) (fun _ => ?_)
    refine ⟨_, rfl, ta, _, _, _, rfl, rfl, SqT.of ht2, at1, rfl, _, rfl, ?_⟩
    refine ite2 (fun z => absurd (of_decide_eq_true z) sg3) (fun _ => ?_)
    refine ⟨_, rfl, _, rfl, rfl, ?_⟩
    have e := k H2 (k1.trans k2)
    rw [show hol bs s ⟨ta', .ne, tb⟩ = !decide (V.int (wo bs s ta') = V.int (wo bs s tb)) from congrArg (fun c => !c) (dec_vi _ _).symm] at e
    exact e
/-- the levels of the boxes that an operand names -/
def isOp (x : Str) : Opn → Bool
  | .num _ => false
  | .nam y => decide (y = x)
def lvls (bs : Bxs) (a b : Opn) : List Nat := (List.range bs.length).filter fun l => match bs[l]? with
  | some q => isOp q.1 a || isOp q.1 b
  | none => false
def spLevels : Sp := fun vs H Q _ => ∃ (b ol : Addr) (bs : Bxs) (a c : Opn), vs = [.ref b, .ref ol] ∧ BoxAt H b bs ∧ bs.length ≤ 1000 ∧ H ol = some (.lst [opV a, opV c]) ∧ ∀ L H', H L = none → Kp [] H H' → H' L = some (.lst (vI (lvls bs a c))) → Q (.ref L) H'
theorem scLevels : FnScope ["boxes", "operands", "level"] ["boxes", "operands"] (defScope sLevels) := ⟨rfl, rfl, rfl, by decide +kernel, rfl, by decide +kernel, by decide +kernel⟩
theorem inV_ops (x : Str) (a c : Opn) : inV (.str x) [opV a, opV c] = (isOp x a || isOp x c) := by
  have h : ∀ o : Opn, eqV (opV o) (.str x) = isOp x o := fun o => by
    cases o with
    | num i => rfl
    | nam y =>
      show (y == x) = decide (y = x)
      by_cases e : y = x
      · rw [decide_eq_true e, e, beq_self_eq_true]
      · rw [decide_eq_false e, beq_eq_false_iff_ne.mpr e]
  unfold inV
  rw [List.any_cons, List.any_cons, List.any_nil, Bool.or_false, h, h]
theorem ok_levels (T : Tx K mg) : FnOk P w K mg base CX0 1 T.levels.f T.levels.fd ["boxes", "operands"] spLevels := by
  refine T.levels.F.ok scLevels (fun vs H Q E h => ?_) (fun cdv A outer s H vs Q E hr h => ?_)
  · obtain ⟨b, ol, bs, a, c, rfl, _⟩ := h
    rfl
  obtain ⟨b, ol, bs, a, c, rfl, ⟨as, b1, b2, b3⟩, hl, ho, k⟩ := h
  refine ⟨_, pss_one (ps_ret (pe_lc (own := [("level", 2)]) (g := gName 2) (tt := _) rfl scLevels.nd (pi_range1 (by rfl) T.range (pa_cons (pe_callB call_len_seq (by rfl) T.len PySem.boot_len (pa_cons (pv 0) pa_nil)) pa_nil))
    (blkOk_by (N := ["boxes", "operands", "level"]) (sc := defScope sLevels) (by decide +kernel)) (fun _ _ _ _ _ => pg_name (i := 2) scLevels.nd rfl (Or.inl rfl))
    (fun _ _ _ _ _ => pts_one (pt_cmpR (opIn K rfl) (pe_ix (ixT K rfl) (pe_ix (ixT K rfl) (pv 0) (pv 2) (fun _ _ => rfl)) pe_int (fun _ _ => rfl)) (pv 1) (by rfl))) (fun _ _ _ _ _ => pv 2))), ?_⟩
  have hal : (as.map V.ref).length = bs.length := by rw [List.length_map, b2]
  refine ⟨_, rfl, b, _, rfl, .inr (SqT.of b1), _, rfl, by omega, by omega, fun D hD => ?_⟩
  rw [hal]
  refine lc_range (lo := 0) (n := bs.length) (fun i H' => Kp [] H H' ∧ H' D = some (.lst (vI ((List.range i).filter fun l => match bs[l]? with
    | some q => isOp q.1 a || isOp q.1 c
    | none => false)))) ⟨Kp.new hD _, upd_same⟩ ?_ ?_
  · rintro i H' hi ⟨kp, hDi⟩
    have ei : (0 : Int) + (i : Nat) = (i : Int) := by omega
    rw [ei]
    have hb : bs[i]? = some bs[i] := List.getElem?_eq_getElem hi
    obtain ⟨ba, ea, eb⟩ := b3 i bs[i].1 bs[i].2 hb
    have hol : H' ol = some (.lst [opV a, opV c]) := kp.lst ho (by simp)
    refine ⟨rfl, _, rfl, _, rfl, b, _, _, _, rfl, rfl, SqT.of (kp.tup _ _ b1), atI_nat (by rw [List.getElem?_map, ea]; rfl), ba, _, _, _, rfl, rfl, SqT.of (kp.tup _ _ eb), at0, _, rfl, ol, _, rfl, .inl (SqL.of hol), rfl, ?_, _, rfl, ?_⟩
    · cases a <;> cases c <;> rfl
    · show if (if false = true then _ else inV (.str bs[i].1) [opV a, opV c]) = true then _ else _
      rw [if_neg Bool.false_ne_true, inV_ops]
      have er : (List.range (i + 1)).filter (fun l => match bs[l]? with
        | some q => isOp q.1 a || isOp q.1 c
        | none => false) = (List.range i).filter (fun l => match bs[l]? with
        | some q => isOp q.1 a || isOp q.1 c
        | none => false) ++ (if (isOp bs[i].1 a || isOp bs[i].1 c) = true then [i] else []) := by
        simp only [List.range_succ, List.filter_append, List.filter_cons, List.filter_nil, hb]
      refine ite2 (fun hc => ?_) (fun hc => ?_)
      · rw [if_pos hc] at er
        refine ⟨_, rfl, _, hDi, ?_, kp.wrN hD hDi _, ?_⟩
        · rw [List.length_map]
          refine mill (Nat.lt_of_le_of_lt (List.length_filter_le _ _) ?_)
          rw [List.length_range]
          omega
        · rw [upd_same, er]
          show _ = some (HO.lst ((_ ++ [i]).map _))
          rw [List.map_append]
          rfl
      · rw [if_neg hc, List.append_nil] at er
        exact ⟨kp, by rw [er]; exact hDi⟩
  · rintro H' ⟨kp, hDi⟩
    exact k D H' hD kp hDi
end
end Lots
end
section
set_option Elab.async false
set_option maxRecDepth 100000
set_option maxHeartbeats 4000000
namespace Lots
open PySem PySem.Spec PyProof.Rows L2 NdefX LamX
variable [TabP]
/-! ### another base: what is known, and the cells of the frames that run -/
def bas (h : Heap) (H : Hp) (fr : List Addr) : Heap := PySem.W.hideAll h (trk h H ++ fr)
section
variable {X : Cx} {pins : List (Addr × Obj)} {σ : L2.St} {H : Hp} {s : Shared}
theorem bas_get {h : Heap} {fr : List Addr} {b : Addr} {o : Obj} (e : h.get? b = some o) (n : H b = none) (nf : b ∉ fr) : (bas h H fr).get? b = some o :=
  PySem.W.hideAll_get _ e fun hm => by
    rcases List.mem_append.mp hm with hm | hm
    · have q : (H b).isSome = true := (List.mem_filter.mp hm).2
      rw [n] at q
      cases q
    · exact nf hm
theorem of_bas {h : Heap} {fr : List Addr} {b : Addr} {o : Obj} (e : (bas h H fr).get? b = some o) : h.get? b = some o ∧ H b = none ∧ b ∉ fr := by
  have e' : h.get? b = some o := PySem.W.of_hideAll (trk h H ++ fr) e
  have hn : b ∉ trk h H ++ fr := fun hm => by
    have z : (bas h H fr).get? b = none := PySem.W.hideAll_none (trk h H ++ fr) hm
    rw [z] at e
    cases e
  refine ⟨e', ?_, fun hm => hn (List.mem_append_right _ hm)⟩
  cases q : H b with
  | none => rfl
  | some x => exact absurd (List.mem_append_left _ (List.mem_filter.mpr ⟨List.mem_range.mpr (Heap.lt_size e'), by simp [q]⟩)) hn
theorem fr_bas {h base : Heap} {fr : List Addr} : ∀ {l : List Env}, (∀ b ∈ frs l, b ∈ fr) → h.FunFrames base l → h.FunFrames (bas h H fr) l
  | [], _, _ => trivial
  | env :: r, hs, hl => by
    obtain ⟨hk, ⟨L, o, hf, hn, ho, hd⟩, hr⟩ := hl
    have hL : L ∈ frs (env :: r) := by unfold frs; rw [List.filterMap_cons, hf]; exact List.mem_cons_self
    refine ⟨hk, ⟨L, o, hf, PySem.W.hideAll_none _ (List.mem_append_right _ (hs L hL)), ho, hd⟩, fr_bas (fun b hb => hs b ?_) hr⟩
    unfold frs
    rw [List.filterMap_cons, hf]
    exact List.mem_cons_of_mem _ hb
theorem up_bas (I : Inv X pins σ H s) : ∀ b o, X.base.get? b = some o → (bas s.heap H (frs X.stack)).get? b = some o := fun b o e =>
  bas_get (I.bs b o e).1 (I.bs b o e).2 fun hb => by
    have z := (I.stack.mem hb).1
    rw [e] at z
    cases z
theorem env_bas (I : Inv X pins σ H s) : Env0 X.prog X.w X.K X.mg (bas s.heap H (frs X.stack)) X.A X.stack s H := by
  have up := up_bas I
  obtain ⟨k1, k2, ⟨mb, k3, k4⟩, k5⟩ := I.ok.mod
  exact ⟨I.ok.frames, ⟨k1.keeps up, k2.keeps up, ⟨mb, k3.keeps up, k4⟩, k5.keeps up⟩, fun b o e => ⟨(of_bas e).1, (of_bas e).2.1⟩, Nat.le_of_eq (PySem.W.hideAll_size _ _), fr_bas (fun _ hb => hb) I.stack, I.stkFree, I.hok, I.bare⟩
end
/-- captured cells in a base -/
structure CB (base : Heap) (cl : List (Str × Addr)) (fr : List Str) (ws : List (Option V)) : Prop where
  len : ws.length = fr.length
  all : ∀ y c, cl.lookup y = some c → ∃ v, base.IsCell c v
  inj : ∀ x y c, cl.lookup x = some c → cl.lookup y = some c → x = y
  has : ∀ (i : Nat) (y : Str), fr[i]? = some y → ∃ c, cl.lookup y = some c ∧ ∀ v, ws[i]? = some (some v) → ∃ u, RelV v u ∧ base.IsCell c (some u)
section
variable {X : Cx} {pins : List (Addr × Obj)} {σ : L2.St} {H : Hp} {s : Shared} {cl : List (Str × Addr)} {fr : List Str} {ws : List (Option V)}
theorem CB.cells (C : CB X.base cl fr ws) (I : Inv X pins σ H s) : CellsAt cl fr ws s.heap H := by
  have kc : ∀ {c : Addr} {v : Option Value}, X.base.IsCell c v → s.heap.IsCell c v ∧ H c = none := fun {c v} ⟨o, e, d⟩ => ⟨⟨o, (I.bs c o e).1, d⟩, (I.bs c o e).2⟩
  refine ⟨C.len, fun y c e => ?_, C.inj, fun i y e => ?_⟩
  · obtain ⟨v, z⟩ := C.all y c e
    exact ⟨(kc z).2, v, (kc z).1⟩
  · obtain ⟨c, hc, hv⟩ := C.has i y e
    refine ⟨c, hc, fun v ev => ?_⟩
    obtain ⟨u, r, z⟩ := hv v ev
    exact ⟨u, r, (kc z).1⟩
theorem CB.of (_ : Inv X pins σ H s) (c : CellsAt cl fr ws s.heap H) (nf : ∀ y a, cl.lookup y = some a → a ∉ frs X.stack) : CB (bas s.heap H (frs X.stack)) cl fr ws := by
  have kc : ∀ {y : Str} {a : Addr} {v : Option Value}, cl.lookup y = some a → s.heap.IsCell a v → (bas s.heap H (frs X.stack)).IsCell a v := fun {y a v} h ⟨o, e, d⟩ => ⟨o, bas_get e (c.all y a h).1 (nf y a h), d⟩
  refine ⟨c.len, fun y a e => ?_, c.inj, fun i y e => ?_⟩
  · obtain ⟨_, v, z⟩ := c.all y a e
    exact ⟨v, kc e z⟩
  · obtain ⟨a, ha, hv⟩ := c.has i y e
    refine ⟨a, ha, fun v ev => ?_⟩
    obtain ⟨u, r, z⟩ := hv v ev
    exact ⟨u, r, kc ha z⟩
/-- the cells of a def's frame are no frames -/
theorem cell_nofr (I : Inv X pins σ H s) (hfn : ∀ x, X.fn x = true) {y : Str} {a : Addr} (e : X.env.cells.lookup y = some a) : a ∉ frs X.stack := fun hb => by
  have hge := I.ok.cab y a (hfn y) e
  rcases List.mem_cons.mp (I.stkSub a hb) with z | z
  · exact I.cne y a e z
  · obtain ⟨_, o, ho, _⟩ := I.ok.funs.mem z
    exact absurd (Nat.lt_of_lt_of_le (Heap.lt_size ho) hge) (Nat.lt_irrefl _)
end
/-! ### a call of a function that another frame has made -/
def tCallC (f : Addr) (F : NF) (i : Nat) (ws : List (Option V)) (sp : List (Option V) → Sp) (E : XK) (t : TA) : TE := fun σ H Q => σ[i]? = some (some (.ref f)) ∧ H f = some (FnO f F) ∧
  t σ H fun vs H1 => H1 f = some (FnO f F) ∧ H1 F.c = some (CodeO F.c F.qual) ∧ sp ws vs H1 Q E
section
variable {X : Cx} {CX : CXT} {F : NF} {ps fr : List Str} {i j k : Nat} {f : Addr} {ws : List (Option V)} {x : Str} {sp : List (Option V) → Sp} {E : XK} {t : TA} {e : Expr} {es : List Expr} {p pos : Pos}
theorem pe_callC (Fn : NOk X.prog X.w X.K X.mg X.base CX k f F ps fr sp) (C : CB X.base F.cl fr ws) (hr : Room j X.A) (hk : k ≤ j) (hx : Passes CX X E) (hN : X.N[i]? = some x) (hv : Vis X.env.scope x) (ha : PA X (e :: es) t)
    (hd : (x == ("__debug__" : Str)) = false := by decide) (hcd : (x == ("__classdict__" : Str)) = false := by decide)
    (he : starEach (e :: es) X.env = (false, eval e X.env) :: starEach es X.env := by rfl) (hpl : (backTo pos (starEach es X.env)).any (·.1) = false := by rfl) :
    PE X (.Call (.Name x p) (e :: es) [] pos) (tCallC f F i ws sp E t) := by
  refine ⟨fun pins s σ H Q I h => ?_⟩
  obtain ⟨hs, hf, ht⟩ := h
  refine wpAny_Call_Name_kw (thn ((pe_var (pos := p) hN hv hd hcd).run pins s σ H (fun v H1 => v = .ref f ∧ H1 = H) I ⟨.ref f, hs, rfl, rfl⟩) fun u s1 ⟨v, H1, I1, r1, q1⟩ => ?_)
  obtain ⟨ev, eH⟩ := q1
  subst ev
  rw [eH] at I1
  obtain rfl : u = Value.ref f := r1
  refine PySem.W.callWith_F (first := []) (fnAt_of I1 hf) (thn (ha.run pos pins s1 σ H _ I1 ht) fun us s2 ⟨vs, H2, I2, r, h1, h2, q⟩ => ⟨fnAt_of I2 h1, ?_⟩) he hpl
  show wpAny _ _ (call (.ref f) us) _ _ _
  refine wpAny_call (codeAny_mono (Fn.run X.A X.stack s2 H2 us vs ws Q E (hr.mono hk) I2.env0 h1 h2 (C.cells I2) r q) fun r s' hq => ?_)
  cases r with
  | error e => exact hx pins σ H2 s2 e s' I2 hq
  | ok fl =>
    cases fl with
    | ret u => exact I2.after hq
    | next => exact False.elim hq
    | brk => exact False.elim hq
    | cont => exact False.elim hq
end
/-! ### o.m(f, ..), m a method that calls the function f of this frame -/
def tMethB (C : Addr) (m : Str) (js : List Nat) (ws : List (Option V)) (sp : Sp) (E : XK) (ta : TE) (t : TA) : TE := fun σ H Q => js.map (slotAt σ) = ws ∧ tMeth C m sp [] E ta t σ H Q
section
variable {X : Cx} {CX : CXT} {cl : List (Str × Addr)} {fr : List Str} {js : List Nat} {ws : List (Option V)} {k : Nat} {f C : Addr} {fd : FuncData} {ps : List Str} {sp : Sp} {E : XK} {m : Str} {pos apos : Pos} {e o : Expr} {es : List Expr} {ta : TE} {t : TA}
theorem pe_methB {pl : Sem Bool} (he : PE X o ta) (c : Cls X.K C) (hm : Meth X.K C m f) (F : ∀ B : Heap, CB B cl fr ws → FnOk X.prog X.w X.K X.mg B CX k f fd ps sp) (cp : X.Ok → Caps X cl fr js) (hfn : ∀ x, X.fn x = true) (hr : Room k X.A) (hb : Binds X.K fd ps []) (hx : Passes CX X E) (ha : PA X (e :: es) t)
    (hst : starEach (e :: es) X.env = (false, eval e X.env) :: starEach es X.env := by rfl) (hpl : (backTo pos (starEach es X.env)).any (·.1) = false := by rfl)
    (ht : eval (.Call (.Attribute o m apos) (e :: es) [] pos) X.env = (do
      let ov ← eval o X.env
      standAt apos.atName
      let (f, first) ← holding [ov] (getMethod ov m pl)
      callWith pos f first (backTo pos (starEach (e :: es) X.env)) (backToKw pos (keywordEach [] X.env))) := by rfl) :
    PE X (.Call (.Attribute o m apos) (e :: es) [] pos) (tMethB C m js ws sp E ta t) := by
  refine ⟨fun pins s σ H Q I h => ?_⟩
  obtain ⟨ew, h⟩ := h
  refine PySem.W.methodCall_KW (pl := pl) (thn (he.run pins s σ H _ I h) fun u s1 ⟨x, H1, I1, rx, a, dx, fs, ex, ea, l, q⟩ => ?_) ht
  subst ex
  obtain rfl : u = Value.ref a := rx
  refine getmeth_ok I1 ea c hm l ?_
  refine PySem.W.callWith_K (first := [.ref a]) (h₀ := X.base) I.ok.mod.kin hm.kp (thn (ha.run pos pins s1 σ H1 _ I1 q) fun us s2 ⟨vs, H2, I2, r, q2⟩ => ⟨I2.kIn, ?_⟩) hst hpl
  have cc := cells_of I2 (cp I2.ok)
  rw [ew] at cc
  have C2 : CB (bas s2.heap H2 (frs X.stack)) cl fr ws := .of I2 cc fun y b eb => cell_nofr I2 hfn ((cp I2.ok).sub y b eb)
  have G := F _ C2
  have r2 : Vals (V.ref a :: vs) (Value.ref a :: us) := .cons rfl r
  have q3 : sp (V.ref a :: vs) H2 Q E := by
    have z : sp (V.ref a :: (vs ++ [])) H2 Q E := q2
    rw [List.append_nil] at z
    exact z
  have hl : (Value.ref a :: us).length = ps.length := by rw [← r2.length]; exact G.len _ _ _ _ q3
  have hbi := hb s2 (Value.ref a :: us) I2.kIn (by rw [List.append_nil]; exact hl)
  rw [List.append_nil] at hbi
  refine wpAny_call (codeAny_mono (G.run X.A X.stack s2 H2 ⟨Value.ref a :: us, []⟩ (Value.ref a :: us) (V.ref a :: vs) Q E hr (env_bas I2) hbi r2 q3) fun r s' hq => ?_)
  cases r with
  | error e => exact hx pins σ H2 s2 e s' I2 hq
  | ok fl =>
    cases fl with
    | ret u => exact I2.after hq
    | next => exact False.elim hq
    | brk => exact False.elim hq
    | cont => exact False.elim hq
end
end Lots
end
section
set_option Elab.async false
set_option maxRecDepth 100000
set_option maxHeartbeats 4000000
namespace Lots
open PySem PySem.Spec PyProof.Rows L2 NdefX LamX
variable [TabP]
/-! ### tuples: sums and slices, whether new or not -/
def rCatU : R2 := fun x y H Q => ∃ a b xs ys, x = .ref a ∧ y = .ref b ∧ H a = some (.tup xs) ∧ H b = some (.tup ys) ∧ xs.length + ys.length ≤ sizeLine ∧ ∀ t H', Kp [] H H' → H' t = some (.tup (xs ++ ys)) → Q (.ref t) H'
def rSlU : V → Option Int → Option Int → Hp → VK → Prop := fun x lo hi H Q => ∃ a xs, x = .ref a ∧ H a = some (.tup xs) ∧ ∀ t H', Kp [] H H' → H' t = some (.tup (cutV xs lo hi)) → Q (.ref t) H'
section
variable {X : Cx}
theorem op_catU : OpR X (binaryOp .Add) rCatU := by
  intro pins s σ H x y v u Q I rx ry h
  obtain ⟨a, b, xs, ys, rfl, rfl, ha, hb, hz, q⟩ := h
  refine op_catA pins s σ H _ _ v u Q I rx ry ⟨a, b, xs, ys, rfl, rfl, SqT.of ha, SqT.of hb, hz, fun e => ?_, fun _ e => ?_, fun _ _ p hp => q p _ (Kp.new hp _) upd_same⟩
  · subst e
    exact q b H (Kp.refl _ _) hb
  · subst e
    exact q a H (Kp.refl _ _) (by rw [List.append_nil]; exact ha)
theorem sl_tupU : SlR X rSlU := by
  intro pins s σ H x v vl vu lo hi sl Q I rx hs pl pu h
  obtain ⟨a, xs, rfl, ha, q⟩ := h
  refine sl_tupA pins s σ H _ v vl vu lo hi sl Q I rx hs pl pu ⟨a, xs, rfl, SqT.of ha, fun e => ?_, fun _ p hp => q p _ (Kp.new hp _) upd_same⟩
  refine q a H (Kp.refl _ _) ?_
  have ec : cutV xs lo hi = xs := by
    unfold cutV
    rw [e.1, e.2, List.drop_zero, Nat.sub_zero, List.take_length]
  rw [ec]
  exact ha
end
theorem cut_to {xs : List V} {l : Nat} (h : l ≤ xs.length) : cutV xs none (some (l : Int)) = xs.take l := by
  unfold cutV
  rw [HT.sIx_none, HT.sIx_nat, List.drop_zero, Nat.sub_zero, Nat.min_eq_left h]
theorem cut_from {xs : List V} {l : Nat} (h : l ≤ xs.length) : cutV xs (some (l : Int)) none = xs.drop l := by
  unfold cutV
  rw [HT.sIx_none, HT.sIx_nat, Nat.min_eq_left h]
  exact List.take_of_length_le (by rw [List.length_drop]; exact Nat.le_refl _)
theorem vI_set {s : List Nat} {l i : Nat} (h : l < s.length) : (vI s).take l ++ [V.int (i : Int)] ++ (vI s).drop (l + 1) = vI (s.set l i) := by
  show (s.map _).take l ++ [V.int (i : Int)] ++ (s.map _).drop (l + 1) = (s.set l i).map _
  rw [List.set_eq_take_append_cons_drop, if_pos h, List.map_append, List.map_cons, List.map_take, List.map_drop, List.append_assoc]
  rfl
/-! ### the function rule -/
/-- what rule tells -/
def spRule (C : Addr) : List (Option V) → Sp := fun ws vs H Q _ => ∃ (p lk d b sa ta : Addr) (bs : Bxs) (s : List Nat) (t : Tst), ws = [some (.ref p), some (.ref ta)] ∧ vs = [.ref sa] ∧ (∃ dx, H p = some (.ins C dx (flds b lk d))) ∧ BoxAt H b bs ∧ bs.length ≤ 1000 ∧
  H sa = some (.tup (vI s)) ∧ s.length = bs.length ∧ TstAt H ta t ∧ OpOk bs t.a ∧ OpOk bs t.b ∧ ∀ r H', Kp [] H H' → FrAt H' r (b01 (hol bs s t), 1) → Q (.ref r) H'
section
variable {P : Program} {w : World} {K : PySem.W.Frag} {mg : Str → Option Value} {base : Heap}
theorem scRule : NScope ["state", "self", "test"] ["state"] ["self", "test"] (C8.fnScope sRule) := nscope_by (by decide +kernel)
theorem boot_int' : bootBuiltins "int" = some (.type "int") := by decide +kernel
theorem ok_rule (T : Tx K mg) (q : Str) (cl : List (Str × Addr)) (f c : Addr) : NOk P w K mg base CX0 4 f (NF.of sRule "rule" q cl c) ["state"] ["self", "test"] (spRule T.C) := by
  refine nok_of scRule (fun doc pm ctv us hl => match us, hl with | [_], _ => rfl) (fun ws vs H Q E h => ?_) (fun A outer s0 H vs ws Q E hr hf hc hw h => ?_)
  · obtain ⟨p, lk, d, b, sa, ta, bs, s, t, _, rfl, _⟩ := h
    rfl
  obtain ⟨p, lk, d, b, sa, ta, bs, s, t, rfl, rfl, ⟨dx, hp⟩, B, hl, hs, hsl, ht, oa, ob, k⟩ := h
  refine ⟨_, pss_one (ps_ret (pe_call (ok_fraction T) (hr.mono (by decide)) rfl T.fraction.m T.fraction.F.kp T.fraction.b .nil pass0 (pa_cons (pe_callTy call_int1 (by rfl) T.int boot_int' (pa_cons
    (pe_call (ok_holds T) hr rfl T.holds.m T.holds.F.kp T.holds.b .nil pass0 (pa_cons (pe_fld (pv 1) rfl) (pa_cons (pv 0) (pa_cons (pv 2) pa_nil)))) pa_nil)) (pa_cons pe_int pa_nil)))), ?_⟩
  refine ⟨_, rfl, p, T.C, dx, _, _, rfl, hp, T.cl, T.nB, flds_boxes _ _ _, _, rfl, _, rfl, b, sa, ta, bs, s, t, rfl, B, hl, hs, hsl, ht, oa, ob, fun H1 k1 => ?_⟩
  refine .inr ⟨_, rfl, hol bs s t, rfl, fun r hr => ?_⟩
  exact k r _ (k1.trans (Kp.new hr _)) upd_same
/-! ### spread -/
/-- the state s with the numbers of s' at the levels ls -/
def ov (ls : List Nat) (s s' : List Nat) : List Nat := ls.foldl (fun acc l => acc.set l (s'.getD l 0)) s
theorem ov_cons (l : Nat) (ls s s' : List Nat) : ov (l :: ls) s s' = ov ls (s.set l (s'.getD l 0)) s' := rfl
/-- what a function of the frame of marked is seen by -/
structure RuleAt (C : Addr) (H : Hp) (e : En) (f c ta : Addr) (q : Str) (cl : List (Str × Addr)) (t : Tst) : Prop where
  fn : H f = some (FnO f (NF.of sRule "rule" q cl c))
  co : H c = some (CodeO c q)
  ts : TstAt H ta t
  oa : OpOk e.bs t.a
  ob : OpOk e.bs t.b
theorem fn_ne_pl {f d : Addr} {F : NF} {as : List Addr} {st : Sto} : FnO f F ≠ PlO P w d as st := fun e => by
  unfold FnO PlO at e
  injection e with e
  have g0 := congrFun e ⟨Array.replicate (f + 1) { cls := .type "function", data := .func (F.fd .none .none .none) }, {}⟩
  have g : (Heap.mk (Array.replicate (f + 1) { cls := .type "function", data := .func (F.fd .none .none .none) }) {}).get? f = some { cls := .type "function", data := .func (F.fd .none .none .none) } := by
    unfold Heap.get?
    simp
  have h := g0.mp ⟨_, _, _, _, _, g⟩
  obtain ⟨_, _, xs, o, es, ep, _, _, h5, _, h7, _⟩ := h
  unfold Heap.get? at h5
  by_cases hd : d < f + 1
  · simp [hd] at h5
    rw [← h5] at h7
    cases h7
  · simp [hd] at h5
theorem ext_ne_lst {φ : Heap → Prop} {xs : List V} : HO.ext φ ≠ .lst xs := fun z => nomatch z
theorem RuleAt.kp {C : Addr} {H H' : Hp} {e : En} {f c ta : Addr} {q : Str} {cl : List (Str × Addr)} {t : Tst} {st : Sto} (h : RuleAt C H e f c ta q cl t) (S : SAt P w C e H st) (k : Kp e.ex H H') : RuleAt C H' e f c ta q cl t := by
  obtain ⟨as, l1, D⟩ := S.kl
  refine ⟨k.keep _ _ h.fn (fun z => ?_) (fun ps z => by unfold FnO at z; cases z), k.keep _ _ h.co (fun z => ?_) (fun ps z => by unfold CodeO at z; cases z), k.tup _ _ h.ts, h.oa, h.ob⟩
  · rcases List.mem_cons.mp z with z | z
    · exact ne_of h.fn l1 ext_ne_lst z
    · exact ne_of h.fn D.dc fn_ne_pl (List.mem_singleton.mp z)
  · rcases List.mem_cons.mp z with z | z
    · exact ne_of h.co l1 ext_ne_lst z
    · exact ne_of h.co D.dc code_ne_pl (List.mem_singleton.mp z)
def lsz (szs : List Nat) (ls : List Nat) : List Nat := ls.map fun l => szs.getD l 0
def spSpread (P : Program) (w : World) (C p ta : Addr) (q : Str) (cl : List (Str × Addr)) (t : Tst) (m : Nat) : Sp := fun vs H Q _ => ∃ (e : En) (f c L sa : Addr) (ls s : List Nat) (b : Nat) (st : Sto), e.p = p ∧ vs = [.ref e.p, .ref f, .ref L, .ref sa] ∧ SAt P w C e H st ∧ RuleAt C H e f c ta q cl t ∧
  H L = some (.lst (vI ls)) ∧ L ∉ e.ex ∧ ls.Pairwise (· < ·) ∧ (∀ l ∈ ls, b ≤ l ∧ l < e.szs.length) ∧ b ≤ e.szs.length ∧ H sa = some (.tup (vI s)) ∧ s.length = e.szs.length ∧ ls.length < m ∧ ls.length ≤ 1000 ∧ (∀ y ∈ e.szs, y ≤ 1000) ∧ e.bs.length ≤ 1000 ∧ st.length + cst (lsz e.szs ls) < 1000000 ∧
  ∀ (st' : Sto) (n : Nat) (H' : Hp), Ext st st' → st'.length ≤ st.length + cst (lsz e.szs ls) → Nd e.szs st' b n (fun s' => (b01 (hol e.bs (ov ls s s') t), 1)) → SAt P w C e H' st' → Kp e.ex H H' → Q (.int (n : Int)) H'
theorem scSpread : FnScope ["self", "rule", "levels", "state", "level", "kids", "number"] ["self", "rule", "levels", "state"] (defScope sSpread) := ⟨rfl, rfl, rfl, by decide +kernel, rfl, by decide +kernel, by decide +kernel⟩
theorem flds_spread (b l d : Addr) : (flds b l d).lookup ("spread" : Str) = none := flds_no _ _ _ (by decide +kernel) (by decide +kernel) (by decide +kernel)
theorem ok_spread (T : Tx K mg) {p ta : Addr} {q : Str} {cl : List (Str × Addr)} (t : Tst) (CBX : CB base cl ["self", "test"] [some (.ref p), some (.ref ta)]) :
    ∀ m : Nat, FnOk P w K mg base CX0 (m + 5) T.spread.f T.spread.fd ["self", "rule", "levels", "state"] (spSpread P w T.C p ta q cl t m)
  | 0 => by
    have no : ∀ vs H Q E, ¬ spSpread P w T.C p ta q cl t 0 vs H Q E := fun vs H Q E h => by
      obtain ⟨e, f, c, L, sa, ls, s, b, st, _, _, _, _, _, _, _, _, _, _, _, h, _⟩ := h
      exact Nat.not_lt_zero _ h
    exact ⟨fun vs H Q E h => absurd h (no vs H Q E), fun A outer s H args us vs Q E _ _ _ _ h => absurd h (no vs H Q E)⟩
  | m + 1 => by
    have ih := ok_spread T (q := q) t CBX m
    have GL := ok_leaf (P := P) (w := w) (base := base) T
    have GF := ok_fork (P := P) (w := w) (base := base) T
    refine T.spread.F.ok scSpread (fun vs H Q E h => ?_) (fun cdv A outer s0 H vs Q E hr h => ?_)
    · obtain ⟨e, f, c, L, sa, ls, s, b, st, _, rfl, _⟩ := h
      rfl
    obtain ⟨e, f, c, L, sa, ls, s, b, st, rfl, rfl, S, R, hL, hLx, hpw, hls, hbN, hs, hsl, hm, hl9, h1000, hbs, hlen, k⟩ := h
    have Fn := ok_rule (P := P) (w := w) (base := base) T q cl f c
    refine ⟨_, pss_cons (ps_if (pt_cmpR op_eq (pe_callB call_len_seq (by rfl) T.len PySem.boot_len (pa_cons (pv 2) pa_nil)) pe_int (nomark _))
        (pss_one (ps_ret (pe_meth (pv 0) T.cl T.leaf.m GL (hr.mono (by omega)) T.leaf.b .nil pass0 (pa_cons (pe_callC (i := 1) Fn CBX hr (by omega) pass0 rfl (Or.inl rfl) (pa_cons (pv 3) pa_nil)) pa_nil)))) pss_nil)
      (pss_cons (ps_set (i := 4) scSpread.nd rfl (Or.inl rfl) (pe_ix ix_list (pv 2) pe_int (fun _ _ => rfl)))
      (pss_cons (ps_set (i := 5) scSpread.nd rfl (Or.inl rfl) (pe_lst pa_nil))
      (pss_cons (ps_for PassesOwn.never rfl (pi_range1 (by rfl) T.range (pa_cons (pe_ix ix_tup (pe_ix ix_tup (pe_fld (pv 0) rfl) (pv 4) (fun _ _ => rfl)) pe_int (fun _ _ => rfl)) pa_nil)) (pg_name (i := 6) scSpread.nd rfl (Or.inl rfl))
        (pss_one (ps_expr (pe_bm PySem.F.plainAttrs_list PySem.F.slot_list_append PySem.F.type_list_append mt_append (pv 5) (pa_cons (pe_meth (pv 0) T.cl T.spread.m ih hr T.spread.b .nil pass0 (pa_cons (pv 1) (pa_cons (pe_slice sl_list (pv 2) (po_some pe_int) po_none)
          (pa_cons (pe_op op_catU (pe_op op_catU (pe_slice sl_tupU (pv 3) po_none (po_some (pv 4))) (pe_tup (pa_cons (pv 6) pa_nil))) (pe_slice sl_tupU (pv 3) (po_some (pe_op op_add (pv 4) pe_int)) po_none)) pa_nil)))) pa_nil)))))
      (pss_one (ps_ret (pe_meth (pv 0) T.cl T.fork.m GF (hr.mono (by omega)) T.fork.b .nil pass0 (pa_cons (pv 4) (pa_cons (pv 5) pa_nil)))))))), ?_⟩
    obtain ⟨dx, hp⟩ := S.ob
    refine ⟨_, rfl, L, _, rfl, .inl (SqL.of hL), rfl, _, rfl, ?_⟩
    cases ls with
    | nil =>
      refine ite2 (fun _ => ?_) (fun z => absurd (decide_eq_true rfl) z)
      refine ⟨_, rfl, e.p, dx, _, rfl, hp, flds_leaf _ _ _, rfl, R.fn, _, rfl, R.fn, R.co, ?_⟩
      refine ⟨e.p, e.lk, e.d, e.b, sa, ta, e.bs, s, t, rfl, rfl, ⟨dx, hp⟩, S.bx, hbs, hs, by rw [hsl, List.length_map], R.ts, R.oa, R.ob, fun r H1 k1 hr1 => ?_⟩
      refine ⟨e, r, st, _, rfl, S.kp k1 (by simp) (by simp), hr1, (by have z : cst (lsz e.szs []) = 1 := rfl; omega), fun st' n H' E1 L1 N1 S1 k2 => ?_⟩
      exact k st' n H' E1 (by have z : cst (lsz e.szs []) = 1 := rfl; omega) (N1.low hbN) S1 ((Kp.of0 k1).trans k2)
    | cons l ls =>
      refine ite2 (fun z => ?_) (fun _ => ?_)
      · have z := of_decide_eq_true z
        injection z with z
        have z : (((l :: ls).length : Nat) : Int) = 0 := by
          have e0 : (vI (l :: ls)).length = (l :: ls).length := List.length_map _
          rw [← e0]
          exact z
        rw [List.length_cons] at z
        omega
      have hll := (hls l List.mem_cons_self).2
      have hbl := (hls l List.mem_cons_self).1
      have hz : e.szs[l]? = some e.szs[l] := List.getElem?_eq_getElem hll
      have hzd : e.szs.getD l 0 = e.szs[l] := by rw [List.getD_eq_getElem?_getD, hz]; rfl
      generalize e.szs[l] = z at hz hzd
      have hc0 : cst (lsz e.szs (l :: ls)) = 1 + z * cst (lsz e.szs ls) := by
        show 1 + e.szs.getD l 0 * cst (lsz e.szs ls) = _
        rw [hzd]
      rw [hc0] at hlen k
      obtain ⟨⟨nm, z'⟩, hbx, hzz⟩ : ∃ q, e.bs[l]? = some q ∧ q.2 = z := by
        rw [List.getElem?_map] at hz
        cases q : e.bs[l]? with
        | none => rw [q] at hz; cases hz
        | some r => rw [q] at hz; exact ⟨r, rfl, Option.some.inj hz⟩
      have hzz : z' = z := hzz
      subst hzz
      have hz1000 := h1000 _ (List.mem_of_getElem? hz)
      have hpl := List.pairwise_cons.mp hpw
      have hN1 : e.szs.length ≤ 1000 := by rw [List.length_map]; exact hbs
      refine ⟨_, rfl, L, _, _, _, rfl, rfl, SqL.of hL, at0, Nat.zero_le _, fun D hD => ?_⟩
      have kD : Kp e.ex H (upd H D (.lst [])) := Kp.new hD _
      have S1 := S.nw hD (.lst [])
      obtain ⟨bs, b1, b2, b3⟩ := S1.bx
      obtain ⟨ba, ha1, ha2⟩ := b3 l nm z' hbx
      refine ⟨_, rfl, e.p, T.C, dx, _, _, rfl, kD.ins _ _ _ _ hp, T.cl, T.nB, flds_boxes _ _ _, _, rfl, e.b, _, _, _, rfl, rfl, SqT.of b1, atI_nat (by rw [List.getElem?_map, ha1]; rfl), ba, _, _, _, rfl, rfl, SqT.of ha2, at1, _, rfl, by omega, by omega, ?_⟩
      refine for_range (lo := 0) (n := z') (fun i σ H' => ∃ (sti : Sto) (ks : List Nat) (v6 : Option V), σ = [some (.ref e.p), some (.ref f), some (.ref L), some (.ref sa), some (.int (l : Int)), some (.ref D), v6] ∧ SAt P w T.C e H' sti ∧ Ext st sti ∧ sti.length ≤ st.length + i * cst (lsz e.szs ls) ∧ Kp e.ex H H' ∧
          H' D = some (.lst (vI ks)) ∧ ks.length = i ∧ ∀ j y, ks[j]? = some y → Nd e.szs sti (l + 1) y (fun s' => (b01 (hol e.bs (ov ls (s.set l j) s') t), 1)))
        ⟨st, [], _, rfl, S1, Ext.refl _, by omega, kD, upd_same, rfl, fun j y q => by simp at q⟩ ?_ ?_
      · rintro i σ H' hi ⟨sti, ks, v6, rfl, Si, Ei, li, kp, hDi, hki, hG⟩
        have ei : (0 : Int) + (i : Nat) = (i : Int) := by omega
        rw [ei]
        have hmul : (i + 1) * cst (lsz e.szs ls) ≤ z' * cst (lsz e.szs ls) := Nat.mul_le_mul_right _ hi
        have hsuc : (i + 1) * cst (lsz e.szs ls) = i * cst (lsz e.szs ls) + cst (lsz e.szs ls) := Nat.succ_mul _ _
        obtain ⟨dx', hp'⟩ := Si.ob
        have Ri := R.kp S kp
        have hLi := kp.lst hL hLx
        have hsi := kp.tup _ _ hs
        refine ⟨_, rfl, .inl ⟨rfl, _, SqL.of hDi⟩, _, rfl, e.p, dx', _, rfl, hp', flds_spread _ _ _, _, rfl, ?_⟩
        refine ⟨_, rfl, _, rfl, L, _, rfl, SqL.of hLi, fun L' hL' => ?_⟩
        have k1 : Kp [] H' (upd H' L' (.lst (cutV (vI (l :: ls)) (some 1) none))) := Kp.new hL' _
        have hcut : cutV (vI (l :: ls)) (some 1) none = vI ls := cut_from (xs := vI (l :: ls)) (l := 1) (by simp)
        rw [hcut] at k1 ⊢
        refine ⟨_, rfl, _, rfl, _, rfl, sa, _, rfl, k1.tup _ _ hsi, fun t1 H2 k2 ht1 => ?_⟩
        refine ⟨_, rfl, (by show 1 ≤ sizeLine; decide), fun t2 ht2 => ?_⟩
        have hsl2 : l ≤ (vI s).length := by rw [List.length_map]; omega
        rw [cut_to hsl2] at ht1
        refine ⟨t1, t2, _, _, rfl, rfl, (Kp.new (ex := []) ht2 _).tup _ _ ht1, upd_same, ?_, fun t3 H3 k3 ht3 => ?_⟩
        · rw [List.length_take, List.length_map, List.length_singleton]
          exact Nat.le_of_lt (mill (by omega))
        have k23 : Kp [] H' H3 := k1.trans (k2.trans ((Kp.new ht2 _).trans k3))
        refine ⟨_, rfl, _, rfl, _, _, rfl, rfl, _, rfl, sa, _, rfl, k23.tup _ _ hsi, fun t4 H4 k4 ht4 => ?_⟩
        have el : ((l : Int) + 1) = ((l + 1 : Nat) : Int) := by omega
        have hsl3 : l + 1 ≤ (vI s).length := by rw [List.length_map]; omega
        rw [el, cut_from hsl3] at ht4
        refine ⟨t3, t4, _, _, rfl, rfl, k4.tup _ _ ht3, ht4, ?_, fun t5 H5 k5 ht5 => ?_⟩
        · rw [List.length_append, List.length_take, List.length_drop, List.length_map, List.length_singleton]
          exact Nat.le_of_lt (mill (by omega))
        rw [vI_set (by omega)] at ht5
        have k15 : Kp [] H' H5 := k23.trans (k4.trans k5)
        have hL5 : H5 L' = some (.lst (vI ls)) := k5.lst (k4.lst (k3.lst ((Kp.new (ex := []) ht2 _).lst (k2.lst upd_same (by simp)) (by simp)) (by simp)) (by simp)) (by simp)
        refine ⟨e, f, c, L', t5, ls, s.set l i, l + 1, sti, rfl, rfl, Si.kp k15 (by simp) (by simp), Ri.kp Si (Kp.of0 k15), hL5, Si.own hL', hpl.2, fun x hx => ⟨hpl.1 x hx, (hls x (List.mem_cons_of_mem _ hx)).2⟩, hll, ht5, by rw [List.length_set]; exact hsl, by rw [List.length_cons] at hm; omega, by rw [List.length_cons] at hl9; omega, h1000, hbs, by omega, fun st' n' H6 E1 L1 N1 S6 k6 => ?_⟩
        have hD6 : H6 D = some (.lst (vI ks)) := k6.lst (k15.lst hDi (by simp)) (S.own hD)
        refine ⟨D, _, _, rfl, rfl, hD6, by rw [List.length_map, hki]; exact mill (by omega), ?_⟩
        refine ⟨st', ks ++ [n'], _, rfl, S6.wl S hD hD6 _, Ei.trans E1, by omega, (kp.trans ((Kp.of0 k15).trans k6)).wrN hD hD6 _, ?_, by rw [List.length_append, hki]; rfl, fun j y q => ?_⟩
        · rw [upd_same]
          show _ = some (HO.lst ((ks ++ [n']).map _))
          rw [List.map_append]
          rfl
        · by_cases hlt : j < ks.length
          · rw [List.getElem?_append_left hlt] at q
            exact (hG j y q).ext E1
          · have ej : j = ks.length := by
              have z2 := (List.getElem?_eq_some_iff.mp q).1
              rw [List.length_append, List.length_singleton] at z2
              omega
            subst ej
            rw [List.getElem?_append_right (Nat.le_refl _), Nat.sub_self] at q
            have eq' : n' = y := by simpa using q
            subst eq'
            rw [hki]
            exact N1
      · rintro σ H' ⟨sti, ks, v6, rfl, Si, Ei, li, kp, hDi, hki, hG⟩
        obtain ⟨dx', hp'⟩ := Si.ob
        refine ⟨_, rfl, e.p, dx', _, rfl, hp', flds_fork _ _ _, _, rfl, _, rfl, e, l, D, ks, sti, fun j s' => (b01 (hol e.bs (ov ls (s.set l j) s') t), 1), rfl, Si, SqL.of hDi, by omega, by omega, by rw [hki]; exact hz, hG, fun st' n H2 E1 L1 N1 S2 k2 => ?_⟩
        refine k st' n H2 (Ei.trans E1) (by omega) ((N1.low hbl).congr fun s' _ => ?_) S2 (kp.trans k2)
        rw [ov_cons]
end
end Lots
end
section
set_option Elab.async false
set_option maxRecDepth 100000
set_option maxHeartbeats 4000000
set_option linter.unusedSectionVars false
namespace Lots
open PySem PySem.Spec PyProof.Rows L2 NdefX LamX
variable [TabP]
/-! ### levels and what hangs on them -/
theorem cst_sub {l1 l2 : List Nat} (h : l1.Sublist l2) : (∀ z ∈ l2, 1 ≤ z) → cst l1 ≤ cst l2 := by
  induction h with
  | slnil => intro _; exact Nat.le_refl _
  | cons z _ ih =>
    intro p
    exact Nat.le_trans (ih fun y hy => p y (List.mem_cons_of_mem _ hy)) (cst_tail (p z List.mem_cons_self))
  | cons_cons z _ ih =>
    intro p
    have := Nat.mul_le_mul_left z (ih fun y hy => p y (List.mem_cons_of_mem _ hy))
    show 1 + z * _ ≤ 1 + z * _
    omega
theorem lsz_range (szs : List Nat) : lsz szs (List.range szs.length) = szs := by
  apply List.ext_getElem?
  intro i
  unfold lsz
  rw [List.getElem?_map]
  by_cases h : i < szs.length
  · rw [List.getElem?_range h, List.getElem?_eq_getElem h]
    show some (szs.getD i 0) = _
    rw [List.getD_eq_getElem?_getD, List.getElem?_eq_getElem h]
    rfl
  · rw [List.getElem?_eq_none (by rw [List.length_range]; omega), List.getElem?_eq_none (by omega)]
    rfl
theorem cst_lvls {bs : Bxs} {a b : Opn} (h : ∀ z ∈ bs.map (·.2), 1 ≤ z) : cst (lsz (bs.map (·.2)) (lvls bs a b)) ≤ cst (bs.map (·.2)) := by
  have hl : (bs.map (·.2)).length = bs.length := List.length_map _
  have q : (lsz (bs.map (·.2)) (lvls bs a b)).Sublist (lsz (bs.map (·.2)) (List.range (bs.map (·.2)).length)) := by
    rw [hl]
    exact List.filter_sublist.map _
  rw [lsz_range] at q
  exact cst_sub q h
theorem lvls_lt {bs : Bxs} {a b : Opn} {l : Nat} (h : l ∈ lvls bs a b) : l < bs.length := List.mem_range.mp (List.mem_filter.mp h).1
theorem lvls_pw (bs : Bxs) (a b : Opn) : (lvls bs a b).Pairwise (· < ·) := List.Pairwise.filter _ List.pairwise_lt_range
theorem ov_len (s' : List Nat) : ∀ (ls s : List Nat), (ov ls s s').length = s.length
  | [], _ => rfl
  | l :: ls, s => by rw [ov_cons, ov_len s' ls, List.length_set]
theorem ov_out (s' : List Nat) {l : Nat} : ∀ (ls s : List Nat), l ∉ ls → (ov ls s s')[l]? = s[l]?
  | [], _, _ => rfl
  | k :: ls, s, h => by
    rw [ov_cons, ov_out s' ls _ fun z => h (List.mem_cons_of_mem _ z)]
    exact List.getElem?_set_ne fun z => h (by rw [z]; exact List.mem_cons_self)
theorem ov_in (s' : List Nat) {l : Nat} : ∀ (ls s : List Nat), l ∈ ls → l < s.length → (ov ls s s')[l]? = some (s'.getD l 0)
  | [], _, h, _ => nomatch h
  | k :: ls, s, h, hl => by
    rw [ov_cons]
    by_cases hm : l ∈ ls
    · exact ov_in s' ls _ hm (by rw [List.length_set]; exact hl)
    · have e : l = k := by
        rcases List.mem_cons.mp h with z | z
        · exact z
        · exact absurd z hm
      subst e
      rw [ov_out s' ls _ hm, List.getElem?_set_self hl]
theorem wo_ov {bs : Bxs} {t : Tst} {s' z : List Nat} (hz : z.length = bs.length) {o : Opn} (ho : o = t.a ∨ o = t.b) (ok : OpOk bs o) : wo bs (ov (lvls bs t.a t.b) z s') o = wo bs s' o := by
  cases o with
  | num i => rfl
  | nam x =>
    have ok : ∃ q ∈ bs, q.1 = x := ok
    have hi := ix_lt ok
    obtain ⟨y, hy⟩ := ix_at ok
    have hm : ix bs x ∈ lvls bs t.a t.b := by
      refine List.mem_filter.mpr ⟨List.mem_range.mpr hi, ?_⟩
      rw [hy]
      show (isOp x t.a || isOp x t.b) = true
      rcases ho with e | e
      · rw [← e]
        show (decide (x = x) || _) = true
        rw [decide_eq_true rfl, Bool.true_or]
      · rw [← e]
        show (_ || decide (x = x)) = true
        rw [decide_eq_true rfl, Bool.or_true]
    show ((List.getD _ _ 0 : Nat) : Int) = ((List.getD _ _ 0 : Nat) : Int)
    rw [List.getD_eq_getElem?_getD, ov_in s' _ z hm (by omega)]
    rfl
theorem hol_ov {bs : Bxs} {t : Tst} {s' z : List Nat} (hz : z.length = bs.length) (oa : OpOk bs t.a) (ob : OpOk bs t.b) : hol bs (ov (lvls bs t.a t.b) z s') t = hol bs s' t := by
  unfold hol
  rw [wo_ov hz (.inl rfl) oa, wo_ov hz (.inr rfl) ob]

section
variable {P : Program} {w : World} {K : PySem.W.Frag} {mg : Str → Option Value} {base : Heap}
def spByOps (P : Program) (w : World) (C p ta : Addr) (q : Str) (cl : List (Str × Addr)) (t : Tst) : Sp := fun vs H Q _ => ∃ (e : En) (f c ol : Addr) (st : Sto), e.p = p ∧ vs = [.ref e.p, .ref f, .ref ol] ∧ SAt P w C e H st ∧ RuleAt C H e f c ta q cl t ∧
  H ol = some (.lst [opV t.a, opV t.b]) ∧ (∀ y ∈ e.szs, y ≤ 1000) ∧ e.bs.length ≤ 9 ∧ cst e.szs ≤ 1000 ∧ st.length + 1000 < 1000000 ∧
  ∀ (st' : Sto) (n : Nat) (H' : Hp), Ext st st' → st'.length ≤ st.length + 1000 → Nd e.szs st' 0 n (fun s' => (b01 (hol e.bs s' t), 1)) → SAt P w C e H' st' → Kp e.ex H H' → Q (.int (n : Int)) H'
theorem scByOps : FnScope ["self", "rule", "operands"] ["self", "rule", "operands"] (defScope sByOps) := ⟨rfl, rfl, rfl, by decide +kernel, rfl, by decide +kernel, by decide +kernel⟩
theorem ok_byops (T : Tx K mg) {p ta : Addr} {q : Str} {cl : List (Str × Addr)} (t : Tst) (CBX : CB base cl ["self", "test"] [some (.ref p), some (.ref ta)]) :
    FnOk P w K mg base CX0 16 T.byops.f T.byops.fd ["self", "rule", "operands"] (spByOps P w T.C p ta q cl t) := by
  refine T.byops.F.ok scByOps (fun vs H Q E h => ?_) (fun cdv A outer s0 H vs Q E hr h => ?_)
  · obtain ⟨e, f, c, ol, st, _, rfl, _⟩ := h
    rfl
  obtain ⟨e, f, c, ol, st, rfl, rfl, S, R, hol', h1000, hbs, hcs, hlen, k⟩ := h
  have GS := ok_spread (P := P) (w := w) (base := base) T (q := q) t CBX 10
  refine ⟨_, pss_one (ps_ret (pe_meth (pv 0) T.cl T.spread.m GS hr T.spread.b .nil pass0 (pa_cons (pv 1)
    (pa_cons (pe_call (ok_levels T) (hr.mono (by decide)) rfl T.levels.m T.levels.F.kp T.levels.b .nil pass0 (pa_cons (pe_fld (pv 0) rfl) (pa_cons (pv 2) pa_nil)))
    (pa_cons (pe_call (ok_start T) (hr.mono (by decide)) rfl T.start.m T.start.F.kp T.start.b .nil pass0 (pa_cons (pe_fld (pv 0) rfl) pa_nil)) pa_nil))))), ?_⟩
  obtain ⟨dx, hp⟩ := S.ob
  refine ⟨_, rfl, e.p, dx, _, rfl, hp, flds_spread _ _ _, _, rfl, _, rfl, e.p, T.C, dx, _, _, rfl, hp, T.cl, T.nB, flds_boxes _ _ _, _, rfl, e.b, ol, e.bs, t.a, t.b, rfl, S.bx, by omega, hol', fun L H1 hL0 k1 hL => ?_⟩
  refine ⟨_, rfl, e.p, T.C, dx, _, _, rfl, k1.ins _ _ _ _ hp, T.cl, T.nB, flds_boxes _ _ _, e.b, e.bs, rfl, S.bx.kp k1, by omega, fun t0 H2 k2 ht0 => ?_⟩
  have k12 : Kp [] H H2 := k1.trans k2
  have hszl : e.szs.length = e.bs.length := List.length_map _
  have hcl : cst (lsz e.szs (lvls e.bs t.a t.b)) ≤ cst e.szs := cst_lvls (a := t.a) (b := t.b) S.wf.pos
  have hle : (lvls e.bs t.a t.b).length ≤ e.bs.length := by
    have z := List.length_filter_le (fun l => match e.bs[l]? with
      | some q => isOp q.1 t.a || isOp q.1 t.b
      | none => false) (List.range e.bs.length)
    rw [List.length_range] at z
    exact z
  refine ⟨e, f, c, L, t0, lvls e.bs t.a t.b, e.bs.map fun _ => 0, 0, st, rfl, rfl, S.kp k12 (by simp) (by simp), R.kp S (Kp.of0 k12), k2.lst hL (by simp), S.own hL0, lvls_pw _ _ _, fun l hl => ⟨Nat.zero_le _, by rw [hszl]; exact lvls_lt hl⟩, Nat.zero_le _, ht0, by rw [List.length_map, hszl], by omega, by omega, h1000, by omega, by omega, fun st' n H3 E1 L1 N1 S3 k3 => ?_⟩
  refine k st' n H3 E1 (by omega) (N1.congr fun s' _ => ?_) S3 ((Kp.of0 k12).trans k3)
  rw [hol_ov (List.length_map _) R.oa R.ob]
/-! ### marked -/
theorem scMarked : FnScope ["self", "test", "rule"] ["self", "test"] (defScope sMarked) := ⟨rfl, rfl, rfl, by decide +kernel, rfl, by decide +kernel, by decide +kernel⟩
theorem flds_byops (b l d : Addr) : (flds b l d).lookup ("by_operands" : Str) = none := flds_no _ _ _ (by decide +kernel) (by decide +kernel) (by decide +kernel)
def spMarked (P : Program) (w : World) (C : Addr) : Sp := fun vs H Q _ => ∃ (e : En) (ta : Addr) (t : Tst) (st : Sto), vs = [.ref e.p, .ref ta] ∧ SAt P w C e H st ∧ TabR H ∧ TstAt H ta t ∧ OpOk e.bs t.a ∧ OpOk e.bs t.b ∧
  (∀ y ∈ e.szs, y ≤ 1000) ∧ e.bs.length ≤ 9 ∧ cst e.szs ≤ 1000 ∧ st.length + 1000 < 1000000 ∧
  ∀ (st' : Sto) (n : Nat) (H' : Hp), Ext st st' → st'.length ≤ st.length + 1000 → Nd e.szs st' 0 n (fun s' => (b01 (hol e.bs s' t), 1)) → SAt P w C e H' st' → Kp e.ex H H' → Q (.int (n : Int)) H'
theorem ok_marked (T : Tx K mg) (TB : TabB base mg T.mcode TabP.pt) : FnOk P w K mg base CX0 17 T.marked.f T.marked.fd ["self", "test"] (spMarked P w T.C) := by
  refine T.markedC.ok scMarked (fun vs H Q E h => ?_) (fun A outer s0 H vs Q E hr h => ?_)
  · obtain ⟨e, ta, t, st, rfl, _⟩ := h
    rfl
  obtain ⟨e, ta, t, st, rfl, S, TR, ht, oa, ob, h1000, hbs, hcs, hlen, k⟩ := h
  have hnd : ndefB (defScope sMarked) (C8.fnScope sRule) ["self", "test"] = true := by decide +kernel
  refine ⟨_, pss_cons (ps_ndefMS (st := sRule) (i := 2) (T := [(TabP.pt, fun _ _ => qR)]) (nm := fun _ _ => qR) (name := "rule") rfl TB rfl (List.mem_singleton.mpr rfl) (by rfl) (fun x hx _ => by rw [List.mem_singleton.mp hx]) (ndef_free hnd) rfl rfl rfl scMarked.nd rfl (Or.inl rfl) (.inr rfl))
    (pss_one (ps_ret (pe_methB (fr := ["self", "test"]) (js := [0, 1]) (ws := [some (.ref e.p), some (.ref ta)]) (pv 0) T.cl T.byops.m (fun B CBX => ok_byops (P := P) (w := w) (base := B) T (q := qR) t CBX)
      (fun ok => Caps.made ok (ndef_free hnd) (ndef_fr hnd) rfl) (fun _ => rfl) hr T.byops.b pass0 (pa_cons (pv 2) (pa_cons (pe_lst (pa_cons (pe_ix ix_tup (pv 1) pe_int (fun _ _ => rfl)) (pa_cons (pe_ix ix_tup (pv 1) pe_int (fun _ _ => rfl)) pa_nil))) pa_nil))))), ?_⟩
  obtain ⟨dx, hp⟩ := S.ob
  refine ⟨TR, fun f c H1 EN NN TR1 hf hf1 hc1 => ?_⟩
  have k1 : Kp e.ex H H1 := ⟨fun b o q _ n => EN b o q n, fun b xs q => EN b _ q (fun _ z => nomatch z), fun b C dx fs q => EN b _ q (fun _ z => nomatch z), NN, fun _ => TR1⟩
  have S1 : SAt P w T.C e H1 st := by
    obtain ⟨as, l1, D⟩ := S.kl
    exact ⟨⟨dx, k1.ins _ _ _ _ hp⟩, S.bx.kp k1, ⟨as, EN _ _ l1 (fun _ z => nomatch z), EN _ _ D.dc (fun _ z => by unfold PlO at z; cases z), D.rc.kp k1, D.nd, D.al⟩, S.wf⟩
  have ht1 := k1.tup _ _ ht
  refine ⟨rfl, _, rfl, e.p, dx, _, rfl, k1.ins _ _ _ _ hp, flds_byops _ _ _, _, rfl, _, rfl, ta, _, _, _, rfl, rfl, SqT.of ht1, at0, _, rfl, ta, _, _, _, rfl, rfl, SqT.of ht1, at2, (by show 2 ≤ sizeLine; decide), fun ol hol0 => ?_⟩
  have k2 : Kp [] H1 (upd H1 ol (.lst [opV t.a, opV t.b])) := Kp.new hol0 _
  refine ⟨e, f, c, ol, st, rfl, rfl, S1.nw hol0 _, ⟨k2.keep _ _ hf1 (by simp) (fun _ z => by unfold FnO at z; cases z), k2.keep _ _ hc1 (by simp) (fun _ z => by unfold CodeO at z; cases z), k2.tup _ _ ht1, oa, ob⟩, upd_same, h1000, hbs, hcs, hlen, fun st' n H3 E1 L1 N1 S3 k3 => ?_⟩
  exact k st' n H3 E1 L1 N1 S3 (k1.trans ((Kp.of0 k2).trans k3))
end
end Lots
end
section
set_option autoImplicit false
namespace Lots
/-! ### all states, in their order -/
def prod : List Nat → Nat
  | [] => 1
  | z :: r => z * prod r
def stp (z : Nat) (s : List Nat) : List (List Nat) := (List.range z).map fun k => s ++ [k]
def sts (szs : List Nat) : List (List Nat) := szs.foldl (fun acc z => acc.flatMap (stp z)) [[]]
def idx : Nat → List Nat → List Nat → Nat
  | acc, [], _ => acc
  | acc, _ :: _, [] => acc
  | acc, z :: zs, a :: s => idx (acc * z + a) zs s
theorem prod_append (a b : List Nat) : prod (a ++ b) = prod a * prod b := by
  induction a with
  | nil => rw [List.nil_append]; exact (Nat.one_mul _).symm
  | cons z r ih => rw [List.cons_append]; show z * prod (r ++ b) = z * prod r * prod b; rw [ih, Nat.mul_assoc]
theorem prod_pos : ∀ {l : List Nat}, (∀ z ∈ l, 1 ≤ z) → 1 ≤ prod l
  | [], _ => Nat.le_refl _
  | z :: r, h => Nat.mul_pos (h z List.mem_cons_self) (prod_pos fun y hy => h y (List.mem_cons_of_mem _ hy))
theorem sts_snoc (a : List Nat) (z : Nat) : sts (a ++ [z]) = (sts a).flatMap (stp z) := by
  unfold sts
  rw [List.foldl_append]
  rfl
theorem stp_len (z : Nat) (s : List Nat) : (stp z s).length = z := by
  unfold stp
  rw [List.length_map, List.length_range]
theorem flat_len {α β : Type} {f : α → List β} {z : Nat} (h : ∀ x, (f x).length = z) : ∀ l : List α, (l.flatMap f).length = l.length * z
  | [] => by simp
  | x :: l => by rw [List.flatMap_cons, List.length_append, h, flat_len h l, List.length_cons, Nat.succ_mul]; omega
theorem flat_get {α β : Type} {f : α → List β} {z : Nat} (hz : 0 < z) (h : ∀ x, (f x).length = z) : ∀ (l : List α) (i : Nat), (l.flatMap f)[i]? = (l[i / z]?).bind fun x => (f x)[i % z]?
  | [], i => by simp
  | x :: l, i => by
    rw [List.flatMap_cons]
    by_cases hi : i < z
    · rw [List.getElem?_append_left (by rw [h]; exact hi), Nat.div_eq_of_lt hi, Nat.mod_eq_of_lt hi]
      rfl
    · have hi : z ≤ i := Nat.le_of_not_lt hi
      rw [List.getElem?_append_right (by rw [h]; exact hi), h, flat_get hz h l (i - z)]
      have e1 : i / z = (i - z) / z + 1 := Nat.div_eq_sub_div hz hi
      have e2 : i % z = (i - z) % z := Nat.mod_eq_sub_mod hi
      rw [e1, e2, List.getElem?_cons_succ]
theorem idx_snoc {z k : Nat} : ∀ (a s : List Nat) (acc : Nat), s.length = a.length → idx acc (a ++ [z]) (s ++ [k]) = idx acc a s * z + k
  | [], [], acc, _ => rfl
  | [], _ :: _, _, h => by simp at h
  | _ :: _, [], _, h => by simp at h
  | y :: a, b :: s, acc, h => by
    show idx (acc * y + b) (a ++ [z]) (s ++ [k]) = _
    exact idx_snoc a s _ (by simpa using h)
theorem idx_acc : ∀ (a s : List Nat) (acc : Nat), s.length = a.length → idx acc a s = acc * prod a + idx 0 a s
  | [], [], acc, _ => by show acc = acc * 1 + 0; omega
  | [], _ :: _, _, h => by simp at h
  | _ :: _, [], _, h => by simp at h
  | y :: a, b :: s, acc, h => by
    have hl : s.length = a.length := by simpa using h
    show idx (acc * y + b) a s = acc * (y * prod a) + idx (0 * y + b) a s
    rw [idx_acc a s _ hl, idx_acc a s (0 * y + b) hl, Nat.add_mul, Nat.add_mul, Nat.mul_assoc]
    omega
/-- the states by their places -/
theorem sts_get : ∀ (n : Nat) (a : List Nat), a.length = n → (∀ z ∈ a, 1 ≤ z) → (sts a).length = prod a ∧
    (∀ i s, (sts a)[i]? = some s → s.length = a.length ∧ (∀ j x z : Nat, s[j]? = some x → a[j]? = some z → x < z) ∧ idx 0 a s = i) ∧
    ∀ s : List Nat, s.length = a.length → (∀ j x z : Nat, s[j]? = some x → a[j]? = some z → x < z) → (sts a)[idx 0 a s]? = some s := by
  intro n
  induction n with
  | zero =>
    intro a ha _
    have e : a = [] := List.length_eq_zero_iff.mp ha
    subst e
    refine ⟨rfl, fun i s h => ?_, fun s hs _ => ?_⟩
    · have hs : ([[]] : List (List Nat))[i]? = some s := h
      have hi := (List.getElem?_eq_some_iff.mp hs).1
      have e : i = 0 := by simp at hi; exact hi
      subst e
      have e2 : [] = s := by simpa using hs
      subst e2
      exact ⟨rfl, fun j x z h => by simp at h, rfl⟩
    · have e : s = [] := List.length_eq_zero_iff.mp hs
      subst e
      rfl
  | succ n ih =>
    intro a ha hp
    obtain ⟨b, z, rfl⟩ : ∃ b z, a = b ++ [z] := by
      rcases List.eq_nil_or_concat a with e | ⟨b, z, e⟩
      · subst e; simp at ha
      · exact ⟨b, z, by rw [e, List.concat_eq_append]⟩
    have hb : b.length = n := by rw [List.length_append, List.length_singleton] at ha; omega
    have hz : 1 ≤ z := hp z (List.mem_append_right _ (List.mem_singleton.mpr rfl))
    obtain ⟨i1, i2, i3⟩ := ih b hb fun y hy => hp y (List.mem_append_left _ hy)
    have fl := flat_len (f := stp z) (stp_len z)
    have fg := flat_get (f := stp z) hz (stp_len z)
    refine ⟨?_, fun i s h => ?_, fun s hs hv => ?_⟩
    · rw [sts_snoc, fl, i1, prod_append]
      show _ = prod b * (z * 1)
      rw [Nat.mul_one]
    · rw [sts_snoc, fg] at h
      cases q : (sts b)[i / z]? with
      | none => rw [q] at h; cases h
      | some s0 =>
        rw [q] at h
        have h : (stp z s0)[i % z]? = some s := h
        have hm := Nat.mod_lt i hz
        unfold stp at h
        rw [List.getElem?_map, List.getElem?_range hm] at h
        have e : s0 ++ [i % z] = s := Option.some.inj h
        subst e
        obtain ⟨j1, j2, j3⟩ := i2 _ _ q
        refine ⟨by rw [List.length_append, List.length_append, j1]; rfl, fun j x y hx hy => ?_, ?_⟩
        · by_cases hj : j < b.length
          · rw [List.getElem?_append_left (by omega)] at hx
            rw [List.getElem?_append_left hj] at hy
            exact j2 j x y hx hy
          · have ej : j = b.length := by
              have := (List.getElem?_eq_some_iff.mp hy).1
              rw [List.length_append, List.length_singleton] at this
              omega
            subst ej
            rw [List.getElem?_append_right (by omega), j1, Nat.sub_self] at hx
            rw [List.getElem?_append_right (Nat.le_refl _), Nat.sub_self] at hy
            have ex : i % z = x := by simpa using hx
            have ey : z = y := by simpa using hy
            omega
        · rw [idx_snoc b s0 0 j1, j3, Nat.mul_comm]
          exact Nat.div_add_mod i z
    · obtain ⟨s0, k, rfl⟩ : ∃ t k, s = t ++ [k] := by
        rcases List.eq_nil_or_concat s with e | ⟨t, k, e⟩
        · subst e; simp at hs
        · exact ⟨t, k, by rw [e, List.concat_eq_append]⟩
      have hs0 : s0.length = b.length := by
        rw [List.length_append, List.length_append, List.length_singleton, List.length_singleton] at hs
        omega
      have hk : k < z := hv b.length k z (by rw [List.getElem?_append_right (by omega), hs0, Nat.sub_self]; rfl) (by rw [List.getElem?_append_right (Nat.le_refl _), Nat.sub_self]; rfl)
      have h0 := i3 s0 hs0 fun j x y hx hy => by
        have hj : j < b.length := (List.getElem?_eq_some_iff.mp hy).1
        exact hv j x y (by rw [List.getElem?_append_left (by omega)]; exact hx) (by rw [List.getElem?_append_left hj]; exact hy)
      rw [idx_snoc b s0 0 hs0, sts_snoc, fg]
      have e1 : (idx 0 b s0 * z + k) / z = idx 0 b s0 := by
        rw [Nat.mul_comm, Nat.mul_add_div hz, Nat.div_eq_of_lt hk, Nat.add_zero]
      have e2 : (idx 0 b s0 * z + k) % z = k := by
        rw [Nat.mul_comm, Nat.mul_add_mod, Nat.mod_eq_of_lt hk]
      rw [e1, e2, h0]
      show (stp z s0)[k]? = _
      unfold stp
      rw [List.getElem?_map, List.getElem?_range hk]
      rfl
/-- .. with Valid -/
theorem sts_len {szs : List Nat} (h : ∀ z ∈ szs, 1 ≤ z) : (sts szs).length = prod szs := (sts_get _ szs rfl h).1
theorem sts_valid {szs : List Nat} (h : ∀ z ∈ szs, 1 ≤ z) {i : Nat} {s : List Nat} (e : (sts szs)[i]? = some s) : Valid szs s ∧ idx 0 szs s = i := by
  obtain ⟨h1, h2, h3⟩ := (sts_get _ szs rfl h).2.1 i s e
  exact ⟨⟨h1, h2⟩, h3⟩
theorem sts_at {szs : List Nat} (h : ∀ z ∈ szs, 1 ≤ z) {s : List Nat} (v : Valid szs s) : (sts szs)[idx 0 szs s]? = some s := (sts_get _ szs rfl h).2.2 s v.1 v.2
theorem idx_lt {szs : List Nat} (h : ∀ z ∈ szs, 1 ≤ z) {s : List Nat} (v : Valid szs s) : idx 0 szs s < prod szs := by
  rw [← sts_len h]
  exact (List.getElem?_eq_some_iff.mp (sts_at h v)).1
theorem sts_first {szs : List Nat} (h : ∀ z ∈ szs, 1 ≤ z) {m : Nat} {s s' : List Nat} (v : Valid szs s) (hm : m < idx 0 szs s) (e : (sts szs)[m]? = some s') : ¬ s' = s := fun z => by
  have q := (sts_valid h e).2
  rw [z] at q
  omega
theorem le_prod : ∀ {l : List Nat} (_ : ∀ z ∈ l, 1 ≤ z) {y : Nat}, y ∈ l → y ≤ prod l
  | [], _, _, hy => nomatch hy
  | z :: r, h, y, hy => by
    show y ≤ z * prod r
    have hz := h z List.mem_cons_self
    have hr := prod_pos fun x hx => h x (List.mem_cons_of_mem _ hx)
    rcases List.mem_cons.mp hy with e | hy
    · rw [e]; exact Nat.le_mul_of_pos_right _ hr
    · exact Nat.le_trans (le_prod (fun x hx => h x (List.mem_cons_of_mem _ hx)) hy) (Nat.le_mul_of_pos_left _ hz)
theorem prod_drop {l : List Nat} {k z : Nat} (e : l[k]? = some z) : prod (l.drop k) = z * prod (l.drop (k + 1)) := by
  obtain ⟨hk, ek⟩ := List.getElem?_eq_some_iff.mp e
  rw [List.drop_eq_getElem_cons hk, ek]
  rfl
theorem valid_drop {szs s : List Nat} (v : Valid szs s) (k : Nat) : Valid (szs.drop k) (s.drop k) := by
  refine ⟨by rw [List.length_drop, List.length_drop, v.1], fun i a z ha hz => ?_⟩
  rw [List.getElem?_drop] at ha hz
  exact v.2 _ a z ha hz
theorem idx_drop {szs s : List Nat} (v : Valid szs s) {k z a : Nat} (ez : szs[k]? = some z) (ea : s[k]? = some a) : idx 0 (szs.drop k) (s.drop k) = a * prod (szs.drop (k + 1)) + idx 0 (szs.drop (k + 1)) (s.drop (k + 1)) := by
  obtain ⟨hk, ek⟩ := List.getElem?_eq_some_iff.mp ez
  obtain ⟨hs, es⟩ := List.getElem?_eq_some_iff.mp ea
  rw [List.drop_eq_getElem_cons hk, List.drop_eq_getElem_cons hs, ek, es]
  show idx (0 * z + a) _ _ = _
  rw [idx_acc _ _ (0 * z + a) (by rw [List.length_drop, List.length_drop, v.1]), Nat.zero_mul, Nat.zero_add]
end Lots
end
section
set_option Elab.async false
set_option maxRecDepth 100000
set_option maxHeartbeats 4000000
set_option linter.unusedSectionVars false
namespace Lots
open PySem PySem.Spec PyProof.Rows L2
variable [TabP]
abbrev iV (xs : List Int) : List V := xs.map V.int
section
variable {P : Program} {w : World} {K : PySem.W.Frag} {mg : Str → Option Value} {base : Heap}
/-! ### take -/
/-- the numbers that are left: a list at L -/
def LeftAt (H : Hp) (L : Addr) : Prop := ∃ xs : List Int, H L = some (.lst (iV xs))
theorem LeftAt.kp {ex : List Addr} {H H' : Hp} {L : Addr} (h : LeftAt H L) (k : Kp ex H H') (n : L ∉ ex) : LeftAt H' L := let ⟨xs, e⟩ := h; ⟨xs, k.lst e n⟩
theorem LeftAt.ne {H : Hp} {L b : Addr} (h : LeftAt H L) (hb : H b = none) : b ≠ L := let ⟨_, e⟩ := h; fun z => by rw [z, e] at hb; cases hb
def spTake : Sp := fun vs H Q _ => ∃ (L : Addr) (m : Int), vs = [.ref L, .int m] ∧ LeftAt H L ∧ 0 < m ∧ ∀ v H', 0 ≤ v → v < m → LeftAt H' L → Kp [L] H H' → Q (.int v) H'
theorem scTake : FnScope ["_law_left", "_law_many"] ["_law_left", "_law_many"] (defScope sTake) := ⟨rfl, rfl, rfl, by decide +kernel, rfl, by decide +kernel, by decide +kernel⟩
theorem ok_take (T : Tx K mg) : FnOk P w K mg base CX0 1 T.take.f T.take.fd ["_law_left", "_law_many"] spTake := by
  refine T.take.F.ok scTake (fun vs H Q E h => ?_) (fun cdv A outer s H vs Q E hr h => ?_)
  · obtain ⟨L, m, rfl, _⟩ := h
    rfl
  obtain ⟨L, m, rfl, ⟨xs, hL⟩, hm, k⟩ := h
  refine ⟨_, pss_cons (ps_if (pt_cmpR op_eq (pe_callB call_len_seq (by rfl) T.len PySem.boot_len (pa_cons (pv 0) pa_nil)) pe_int (nomark _)) (pss_one (ps_ret pe_int)) pss_nil)
    (pss_one (ps_ret (pe_op op_mod (pe_bm0 PySem.F.plainAttrs_list PySem.F.slot_list_pop PySem.F.type_list_pop mt_pop (pv 0)) (pv 1)))), ?_⟩
  refine ⟨_, rfl, L, _, rfl, .inl (SqL.of hL), rfl, _, rfl, ?_⟩
  refine ite2 (fun c => ?_) (fun c => ?_)
  · exact k 0 H (Int.le_refl 0) hm ⟨xs, hL⟩ (Kp.refl _ _)
  · have hne : xs ≠ [] := fun z => by
      refine c (decide_eq_true ?_)
      rw [z]
      rfl
    have hlen : 0 < xs.length := List.length_pos_iff.mpr hne
    have hy : (iV xs)[(iV xs).length - 1]? = some (V.int xs[xs.length - 1]) := by
      show (xs.map V.int)[(xs.map V.int).length - 1]? = _
      rw [List.length_map, List.getElem?_map, List.getElem?_eq_getElem (by omega)]
      rfl
    refine ⟨_, rfl, .inl ⟨rfl, _, SqL.of hL⟩, L, _, _, rfl, rfl, hL, hy, _, rfl, _, _, rfl, rfl, hm, ?_⟩
    refine k _ _ (Int.emod_nonneg _ (by omega)) (Int.emod_lt_of_pos _ hm) ⟨xs.dropLast, ?_⟩ (Kp.wrL hL (by simp) _)
    rw [upd_same]
    show some (HO.lst (xs.map V.int).dropLast) = some (HO.lst (xs.dropLast.map V.int))
    rw [List.map_dropLast]
/-! ### word -/
def spWord : Sp := fun vs H Q _ => ∃ (n : Int) (k : Nat), vs = [.int n, .int (k : Int)] ∧ k ≤ 8 ∧ ∀ x : Str, x.length ≤ 8 → Q (.str x) H
theorem scWord : FnScope ["_law_number", "_law_size", "_law_word_here", "_law_k"] ["_law_number", "_law_size"] (defScope sWord) := ⟨rfl, rfl, rfl, by decide +kernel, rfl, by decide +kernel, by decide +kernel⟩
theorem abc_len : ("abcdefghijklmnopqrstuvwxyz" : Str).length = 26 := by decide +kernel
theorem abc_at {i : Int} (h0 : 0 ≤ i) (h1 : i < 26) : ∃ c, ("abcdefghijklmnopqrstuvwxyz" : Str).cps[i.toNat]? = some c := by
  have e : ("abcdefghijklmnopqrstuvwxyz" : Str).cps.size = 26 := by decide +kernel
  exact ⟨_, Array.getElem?_eq_getElem (by omega)⟩
theorem str_len1 (c : Nat) : (⟨#[c]⟩ : Str).length = 1 := rfl
theorem str_cat (x y : Str) : (x ++ y).length = x.length + y.length := by
  show (x.cps ++ y.cps).size = x.cps.size + y.cps.size
  exact Array.size_append
theorem ok_word (T : Tx K mg) : FnOk P w K mg base CX0 1 T.word.f T.word.fd ["_law_number", "_law_size"] spWord := by
  refine T.word.F.ok scWord (fun vs H Q E h => ?_) (fun cdv A outer s H vs Q E hr h => ?_)
  · obtain ⟨n, m, rfl, _⟩ := h
    rfl
  obtain ⟨n, m, rfl, hm, k⟩ := h
  refine ⟨_, pss_cons (ps_set (i := 2) scWord.nd rfl (Or.inl rfl) pe_str)
    (pss_cons (ps_for PassesOwn.never rfl (pi_range1 (by rfl) T.range (pa_cons (pv 1) pa_nil)) (pg_name (i := 3) scWord.nd rfl (Or.inl rfl))
      (pss_cons (ps_set (i := 2) scWord.nd rfl (Or.inl rfl) (pe_op op_add_str (pv 2) (pe_item_str pe_str (pe_op op_mod (pv 0) pe_int) (fun _ _ => rfl))))
      (pss_one (ps_set (i := 0) scWord.nd rfl (Or.inl rfl) (pe_op op_fdiv (pv 0) pe_int)))))
    (pss_one (ps_ret (pv 2)))), ?_⟩
  refine ⟨_, rfl, _, rfl, by omega, by omega, ?_⟩
  refine for_range (lo := 0) (n := m) (fun i σ H' => H' = H ∧ i ≤ m ∧ ∃ (n' : Int) (x : Str) (v : Option V), σ = [some (.int n'), some (.int (m : Int)), some (.str x), v] ∧ x.length = i) ⟨rfl, Nat.zero_le _, n, _, _, rfl, rfl⟩ ?_ ?_
  · rintro i σ H' hi ⟨rfl, _, n', x, v, rfl, hx⟩
    obtain ⟨c, hc⟩ := abc_at (i := n' % 26) (Int.emod_nonneg _ (by decide)) (Int.emod_lt_of_pos _ (by decide))
    refine ⟨_, rfl, _, rfl, _, _, rfl, rfl, (by show (0 : Int) < 26; decide), _, _, c, rfl, rfl, Int.emod_nonneg _ (by decide), ?_, ?_, hc, _, _, rfl, rfl, ?_, ?_⟩
    · have z := Int.emod_lt_of_pos n' (by decide : (0 : Int) < 26)
      exact Int.lt_trans z (by decide)
    · rw [abc_len]
      exact Int.emod_lt_of_pos _ (by decide)
    · rw [str_len1, hx]
      exact Nat.le_of_lt (mill (by omega))
    · refine ⟨_, rfl, _, _, rfl, rfl, ⟨by decide, by decide⟩, rfl, hi, _, _, _, rfl, ?_⟩
      rw [str_cat, str_len1, hx]
  · rintro σ H' ⟨rfl, _, n', x, v, rfl, hx⟩
    exact ⟨_, rfl, k x (by omega)⟩
end
end Lots
end
section
set_option Elab.async false
set_option maxRecDepth 100000
set_option maxHeartbeats 4000000
set_option linter.unusedSectionVars false
namespace Lots
open PySem PySem.Spec PyProof.Rows L2
variable [TabP]
section
variable {P : Program} {w : World} {K : PySem.W.Frag} {mg : Str → Option Value} {base : Heap}
/-! ### names -/
def spNames : Sp := fun vs H Q _ => ∃ (L : Addr) (m : Nat), vs = [.ref L, .int (m : Int)] ∧ LeftAt H L ∧ m ≤ 9 ∧ ∀ (D : Addr) (nms : List Str) (H' : Hp), H D = none → H' D = some (.lst (nms.map V.str)) → nms.length = m → LeftAt H' L → Kp [L] H H' → Q (.ref D) H'
abbrev nN : List Str := ["_law_left", "_law_many", "_law_way", "_law_some", "_law_turn", "_law_word_here", "_law_cell", "_law_size", "_law_at", "_law_k"]
theorem scNames : FnScope nN ["_law_left", "_law_many"] (defScope sNames) := ⟨rfl, rfl, rfl, by decide +kernel, rfl, by decide +kernel, by decide +kernel⟩
def ws13 : List Str := ["pass", "end", "lost", "set", "hand", "draw", "if", "gain", "while", "look", "times", "leaf", "fork"]
theorem ok_names (T : Tx K mg) : FnOk P w K mg base CX0 2 T.names.f T.names.fd ["_law_left", "_law_many"] spNames := by
  refine T.names.F.ok scNames (fun vs H Q E h => ?_) (fun cdv A outer s H vs Q E hr h => ?_)
  · obtain ⟨L, m, rfl, _⟩ := h
    rfl
  obtain ⟨L, m, rfl, hL, hm, k⟩ := h
  have GT := ok_take (P := P) (w := w) (base := base) T
  have GW := ok_word (P := P) (w := w) (base := base) T
  refine ⟨_, pss_cons (ps_set (i := 2) scNames.nd rfl (Or.inl rfl) (pe_call GT hr rfl T.take.m T.take.F.kp T.take.b .nil pass0 (pa_cons (pv 0) (pa_cons pe_int pa_nil))))
    (pss_cons (ps_if (pt_cmpR op_eq (pv 2) pe_int (nomark _))
      (pss_cons (ps_set (i := 3) scNames.nd rfl (Or.inr rfl) (pe_lst (pa_cons pe_str (pa_cons pe_str (pa_cons pe_str (pa_cons pe_str (pa_cons pe_str (pa_cons pe_str (pa_cons pe_str (pa_cons pe_str (pa_cons pe_str (pa_cons pe_str (pa_cons pe_str (pa_cons pe_str (pa_cons pe_str pa_nil)))))))))))))))
      (pss_cons (ps_set (i := 4) scNames.nd rfl (Or.inr rfl) (pe_call GT hr rfl T.take.m T.take.F.kp T.take.b .nil pass0 (pa_cons (pv 0) (pa_cons pe_int pa_nil))))
      (pss_one (ps_ret (pe_lc (own := [("_law_k", 9)]) (g := gName 9) (tt := tYes) rfl scNames.nd (pi_range1 (by rfl) T.range (pa_cons (pv 1) pa_nil))
        (blkOk_by (N := nN) (sc := defScope sNames) (by decide +kernel)) (fun _ _ _ _ _ => pg_name (i := 9) scNames.nd rfl (Or.inl rfl)) (fun _ _ _ _ _ => pts_nil)
        (fun _ _ _ _ _ => pe_ix (ixL K rfl) (pv 3) (pe_op op_mod (pe_op op_add (pv 4) (pv 9)) pe_int) (fun _ _ => rfl)))))))
      pss_nil)
    (pss_cons (ps_set (i := 5) scNames.nd rfl (Or.inr rfl) (pe_call GW hr rfl T.word.m T.word.F.kp T.word.b .nil pass0 (pa_cons (pe_call GT hr rfl T.take.m T.take.F.kp T.take.b .nil pass0 (pa_cons (pv 0) (pa_cons (pe_op op_pow pe_int pe_int) pa_nil))) (pa_cons pe_int pa_nil))))
    (pss_cons (ps_if (PW.pt (pw_and (pt_cmpR op_eq (pv 2) pe_int (nomark _)) (pw_and1 (pt_cmpR op_lt (pv 1) pe_int (nomark _)))))
      (pss_one (ps_ret (pe_lc (own := [("_law_k", 9)]) (g := gName 9) (tt := tYes) rfl scNames.nd (pi_range1 (by rfl) T.range (pa_cons (pv 1) pa_nil))
        (blkOk_by (N := nN) (sc := defScope sNames) (by decide +kernel)) (fun _ _ _ _ _ => pg_name (i := 9) scNames.nd rfl (Or.inl rfl)) (fun _ _ _ _ _ => pts_nil)
        (fun _ _ _ _ _ => pe_slice sl_str (pv 5) po_none (po_some (pe_op op_add (pv 9) pe_int))))))
      pss_nil)
    (pss_cons (ps_set (i := 6) scNames.nd rfl (Or.inr rfl) (pe_call GT hr rfl T.take.m T.take.F.kp T.take.b .nil pass0 (pa_cons (pv 0) (pa_cons pe_int pa_nil))))
    (pss_cons (ps_set (i := 7) scNames.nd rfl (Or.inr rfl) (pe_op op_add pe_int (pe_op op_mod (pv 6) pe_int)))
    (pss_cons (ps_set (i := 8) scNames.nd rfl (Or.inr rfl) (pe_op op_mod (pe_op op_fdiv (pv 6) pe_int) (pv 7)))
    (pss_one (ps_ret (pe_lc (own := [("_law_k", 9)]) (g := gName 9) (tt := tYes) rfl scNames.nd (pi_range1 (by rfl) T.range (pa_cons (pv 1) pa_nil))
        (blkOk_by (N := nN) (sc := defScope sNames) (by decide +kernel)) (fun _ _ _ _ _ => pg_name (i := 9) scNames.nd rfl (Or.inl rfl)) (fun _ _ _ _ _ => pts_nil)
        (fun _ _ _ _ _ => pe_op op_add_str (pe_op op_add_str (pe_slice sl_str (pv 5) po_none (po_some (pv 8))) (pe_call GW hr rfl T.word.m T.word.F.kp T.word.b .nil pass0 (pa_cons (pe_op op_add (pe_op op_fdiv (pv 6) pe_int) (pv 9)) (pa_cons pe_int pa_nil))))
          (pe_slice sl_str (pv 5) (po_some (pe_op op_add (pv 8) pe_int)) (po_some (pv 7))))))))))))), ?_⟩
  refine ⟨_, rfl, L, 4, rfl, hL, by decide, fun v1 H1 v10 v11 hL1 k1 => ?_⟩
  -- what all three comprehensions keep
  have fin : ∀ (H2 : Hp), LeftAt H2 L → Kp [L] H H2 → ∀ (D : Addr), H2 D = none → ∀ H', (Kp [] H2 H' ∧ ∃ nms : List Str, H' D = some (.lst (nms.map V.str)) ∧ nms.length = m) → Q (.ref D) H' := fun H2 hL2 k2 D hD H' ⟨k3, nms, h1, h2⟩ =>
    k D nms H' (k2.fr D hD) h1 h2 (hL2.kp k3 (by simp)) (k2.trans (Kp.of0 k3))
  have nxt : ∀ {H2 H' : Hp} {D : Addr} {nms : List Str} {i : Nat} (x : Str), H2 D = none → Kp [] H2 H' → H' D = some (.lst (nms.map V.str)) → nms.length = i → i < m → ∃ acc, H' D = some (.lst acc) ∧ acc.length < sizeLine ∧ (Kp [] H2 (upd H' D (.lst (acc ++ [V.str x]))) ∧
      ∃ nms' : List Str, upd H' D (.lst (acc ++ [V.str x])) D = some (.lst (nms'.map V.str)) ∧ nms'.length = i + 1) := fun {H2 H' D nms i} x hD kp hDi hn hi =>
    ⟨_, hDi, by rw [List.length_map]; exact mill (by omega), kp.wrN hD hDi _, nms ++ [x], by rw [upd_same, List.map_append]; rfl, by rw [List.length_append, hn]; rfl⟩
  refine ⟨_, rfl, rfl, _, rfl, ?_⟩
  refine ite2 (fun _ => ?_) (fun _ => ?_)
  · refine ⟨(by show 13 ≤ sizeLine; decide), fun Sm hSm => ?_⟩
    have kS : Kp [L] H1 (upd H1 Sm (.lst (ws13.map V.str))) := Kp.new hSm _
    refine ⟨_, rfl, L, 13, rfl, hL1.kp (Kp.new (ex := []) hSm _) (by simp), by decide, fun v2 H2 v20 v21 hL2 k2 => ?_⟩
    have hS2 : H2 Sm = some (.lst (ws13.map V.str)) := k2.lst upd_same (by
      intro z
      exact hL1.ne hSm (List.mem_singleton.mp z))
    refine ⟨_, rfl, _, rfl, by omega, by omega, fun D hD => ?_⟩
    refine lc_range (lo := 0) (n := m) (fun i H' => Kp [] H2 H' ∧ ∃ nms : List Str, H' D = some (.lst (nms.map V.str)) ∧ nms.length = i) ⟨Kp.new hD _, [], upd_same, rfl⟩ ?_ (fin H2 hL2 (k1.trans (kS.trans k2)) D hD)
    rintro i H' hi ⟨kp, nms, hDi, hn⟩
    refine ⟨rfl, tYes_of ?_⟩
    refine iteT ?_
    have hz0 := Int.emod_nonneg (v2 + (0 + (i : Int))) (by decide : (13 : Int) ≠ 0)
    have hz1 := Int.emod_lt_of_pos (v2 + (0 + (i : Int))) (by decide : (0 : Int) < 13)
    obtain ⟨j, hj⟩ := Int.eq_ofNat_of_zero_le hz0
    have hj13 : j < ws13.length := by
      have e : ws13.length = 13 := rfl
      omega
    refine ⟨_, rfl, _, rfl, _, rfl, _, _, rfl, rfl, _, _, rfl, rfl, (by show (0 : Int) < 13; decide), Sm, _, _, V.str ws13[j], rfl, rfl, SqL.of (kp.lst hS2 (by simp)), at_of hj (by rw [List.getElem?_map, List.getElem?_eq_getElem hj13]; rfl), ?_⟩
    exact nxt _ hD kp hDi hn hi
  · refine ⟨_, rfl, _, _, rfl, rfl, ⟨by decide, by decide, by decide⟩, L, _, rfl, hL1, by decide, fun v2 H2 v20 v21 hL2 k2 => ?_⟩
    refine ⟨v2, 8, rfl, Nat.le_refl _, fun x hx => ?_⟩
    have hxl : x.length ≤ sizeLine := Nat.le_of_lt (mill (by omega))
    have hL2' : LeftAt H2 L := hL2
    refine ⟨_, rfl, rfl, _, rfl, ?_⟩
    refine ite2 (fun _ => ⟨_, rfl, _, _, rfl, rfl, _, rfl, ite2 (fun _ => ?_) (fun _ => ?_)⟩) (fun _ => iteF ?_)
    · refine ⟨_, rfl, _, rfl, by omega, by omega, fun D hD => ?_⟩
      refine lc_range (lo := 0) (n := m) (fun i H' => Kp [] H2 H' ∧ ∃ nms : List Str, H' D = some (.lst (nms.map V.str)) ∧ nms.length = i) ⟨Kp.new hD _, [], upd_same, rfl⟩ ?_ (fin H2 hL2 (k1.trans k2) D hD)
      rintro i H' hi ⟨kp, nms, hDi, hn⟩
      refine ⟨rfl, tYes_of ?_⟩
      refine iteT ?_
      refine ⟨_, rfl, _, rfl, _, _, rfl, rfl, _, rfl, x, rfl, hxl, ?_⟩
      exact nxt _ hD kp hDi hn hi
    all_goals
      refine ⟨_, rfl, L, 1664, rfl, hL2, by decide, fun v3 H3 v30 v31 hL3 k3 => ?_⟩
      have hs0 := Int.emod_nonneg v3 (by decide : (8 : Int) ≠ 0)
      have hs1 := Int.emod_lt_of_pos v3 (by decide : (0 : Int) < 8)
      refine ⟨_, rfl, _, _, rfl, rfl, (by show (0 : Int) < 8; decide), _, _, rfl, rfl, ?_⟩
      refine ⟨_, rfl, _, _, rfl, rfl, ⟨by decide, by decide⟩, _, rfl, _, _, rfl, rfl, (by show (0 : Int) < 1 + v3 % 8; omega), ?_⟩
      refine ⟨_, rfl, _, rfl, by omega, by omega, fun D hD => ?_⟩
      refine lc_range (lo := 0) (n := m) (fun i H' => Kp [] H3 H' ∧ ∃ nms : List Str, H' D = some (.lst (nms.map V.str)) ∧ nms.length = i) ⟨Kp.new hD _, [], upd_same, rfl⟩ ?_ (fin H3 hL3 (k1.trans (k2.trans k3)) D hD)
      rintro i H' hi ⟨kp, nms, hDi, hn⟩
      refine ⟨rfl, tYes_of ?_⟩
      refine iteT ?_
      refine ⟨_, rfl, _, rfl, _, rfl, x, rfl, hxl, _, rfl, _, _, rfl, rfl, ⟨by decide, by decide⟩, _, rfl, _, _, rfl, rfl, _, 1, rfl, by decide, fun y hy => ?_⟩
      have c1 := cutS_length x none (some (v3 / 8 % (1 + v3 % 8)))
      have c2 := cutS_length x (some (v3 / 8 % (1 + v3 % 8) + 1)) (some (1 + v3 % 8))
      refine ⟨_, _, rfl, rfl, Nat.le_of_lt (mill (by omega)), _, rfl, _, rfl, _, _, rfl, rfl, _, rfl, _, rfl, _, rfl, x, rfl, hxl, _, _, rfl, rfl, ?_, ?_⟩
      · rw [str_cat]
        exact Nat.le_of_lt (mill (by omega))
      · exact nxt _ hD kp hDi hn hi
end
end Lots
end
section
set_option Elab.async false
set_option maxRecDepth 100000
set_option maxHeartbeats 4000000
set_option linter.unusedSectionVars false
namespace Lots
open PySem PySem.Spec PyProof.Rows L2
variable [TabP]
section
variable {P : Program} {w : World} {K : PySem.W.Frag} {mg : Str → Option Value} {base : Heap}
/-! ### boxes -/
theorem snoc_prod (l : List Nat) (z : Nat) : prod (l ++ [z]) = prod l * z := by
  rw [prod_append]
  show prod l * (z * 1) = _
  rw [Nat.mul_one]
def spBoxes : Sp := fun vs H Q _ => ∃ (L : Addr) (m : Nat), vs = [.ref L, .int (m : Int)] ∧ LeftAt H L ∧ 1 ≤ m ∧ m ≤ 1000 ∧ ∀ (b : Addr) (bs : Bxs) (H' : Hp), BoxAt H' b bs → bs.length ≤ 9 → (∀ z ∈ bs.map (·.2), 1 ≤ z) → prod (bs.map (·.2)) ≤ m → LeftAt H' L → Kp [L] H H' → Q (.ref b) H'
theorem scBoxes : FnScope ["_law_left", "_law_most", "_law_many", "_law_boxes_here", "_law_states_here", "_law_name", "_law_size"] ["_law_left", "_law_most"] (defScope sBoxes) := ⟨rfl, rfl, rfl, by decide +kernel, rfl, by decide +kernel, by decide +kernel⟩
theorem min_fit {st m : Nat} {sz : Int} (h1 : 1 ≤ st) (h2 : st ≤ m) (h3 : 1 ≤ sz) : ∃ z : Nat, (if (m : Int) / (st : Int) < sz then (m : Int) / (st : Int) else sz) = (z : Int) ∧ 1 ≤ z ∧ st * z ≤ m := by
  have e : (m : Int) / (st : Int) = ((m / st : Nat) : Int) := rfl
  have hd : 1 ≤ m / st := (Nat.le_div_iff_mul_le h1).mpr (by omega)
  have hm : st * (m / st) ≤ m := Nat.mul_div_le m st
  rw [e]
  by_cases c : ((m / st : Nat) : Int) < sz
  · exact ⟨m / st, if_pos c, hd, hm⟩
  · obtain ⟨z, rfl⟩ := Int.eq_ofNat_of_zero_le (by omega : 0 ≤ sz)
    refine ⟨z, if_neg c, by omega, Nat.le_trans (Nat.mul_le_mul_left st (by omega)) hm⟩
theorem ok_boxes (T : Tx K mg) : FnOk P w K mg base CX0 3 T.lboxes.f T.lboxes.fd ["_law_left", "_law_most"] spBoxes := by
  refine T.lboxes.F.ok scBoxes (fun vs H Q E h => ?_) (fun cdv A outer s H vs Q E hr h => ?_)
  · obtain ⟨L, m, rfl, _⟩ := h
    rfl
  obtain ⟨L, m, rfl, hL, hm1, hm9, k⟩ := h
  have GT := ok_take (P := P) (w := w) (base := base) T
  have GN := ok_names (P := P) (w := w) (base := base) T
  have hr1 : Room 1 _ := hr.mono (by decide)
  refine ⟨_, pss_cons (ps_set (i := 2) scBoxes.nd rfl (Or.inl rfl) (pe_call GT hr1 rfl T.take.m T.take.F.kp T.take.b .nil pass0 (pa_cons (pv 0) (pa_cons pe_int pa_nil))))
    (C8.pss_cut (ps_if (pt_cmpR op_gt (pv 2) pe_int (nomark _)) (pss_one (ps_set (i := 2) scBoxes.nd rfl (Or.inl rfl) (pe_op op_add pe_int (pe_op op_mod (pv 2) pe_int)))) pss_nil)
    (pss_cons (ps_set (i := 3) scBoxes.nd rfl (Or.inl rfl) (pe_tup pa_nil))
    (pss_cons (ps_set (i := 4) scBoxes.nd rfl (Or.inl rfl) pe_int)
    (pss_cons (ps_for PassesOwn.never rfl (pi_list (pe_call GN hr rfl T.names.m T.names.F.kp T.names.b .nil pass0 (pa_cons (pv 0) (pa_cons (pv 2) pa_nil)))) (pg_name (i := 5) scBoxes.nd rfl (Or.inl rfl))
      (pss_cons (ps_set (i := 6) scBoxes.nd rfl (Or.inl rfl) (pe_op op_add pe_int (pe_call GT hr1 rfl T.take.m T.take.F.kp T.take.b .nil pass0 (pa_cons (pv 0) (pa_cons pe_int pa_nil)))))
      (C8.pss_cut (ps_if (PW.pt (pw_and (pt_cmpR op_gt (pv 2) pe_int (nomark _)) (pw_and1 (pt_cmpR op_lt (pv 1) pe_int (nomark _))))) (pss_one (ps_set (i := 6) scBoxes.nd rfl (Or.inl rfl) (pe_op op_add pe_int (pe_op op_mod (pv 6) pe_int)))) pss_nil)
      (pss_cons (ps_set (i := 6) scBoxes.nd rfl (Or.inl rfl) (pe_callB (call_min2 rfl) (by rfl) T.min (by decide +kernel) (pa_cons (pv 6) (pa_cons (pe_op op_fdiv (pv 1) (pv 4)) pa_nil))))
      (pss_cons (ps_set (i := 3) scBoxes.nd rfl (Or.inl rfl) (pe_op op_catU (pv 3) (pe_tup (pa_cons (pe_tup (pa_cons (pv 5) (pa_cons (pv 6) pa_nil))) pa_nil))))
      (pss_one (ps_set (i := 4) scBoxes.nd rfl (Or.inl rfl) (pe_op op_mul (pv 4) (pv 6)))))))))
    (pss_one (ps_ret (pv 3))))))), ?_⟩
  refine ⟨_, rfl, L, 40, rfl, hL, by decide, fun v1 H1 v10 v11 hL1 k1 => ?_⟩
  refine ⟨fun σ' H' => H' = H1 ∧ ∃ n : Nat, n ≤ 9 ∧ σ' = [some (.ref L), some (.int (m : Int)), some (.int (n : Int)), none, none, none, none], ?_, ?_⟩
  · refine ⟨_, rfl, _, _, rfl, rfl, _, rfl, ?_⟩
    refine ite2 (fun c => ?_) (fun c => ?_)
    · refine ⟨_, rfl, _, _, rfl, rfl, (by show (0 : Int) < 3; decide), _, _, rfl, rfl, rfl, ?_⟩
      have h0 := Int.emod_nonneg v1 (by decide : (3 : Int) ≠ 0)
      have h1 := Int.emod_lt_of_pos v1 (by decide : (0 : Int) < 3)
      obtain ⟨n, hn⟩ := Int.eq_ofNat_of_zero_le (by omega : 0 ≤ 1 + v1 % 3)
      exact ⟨n, by omega, by rw [← hn]; rfl⟩
    · have c' : ¬ (9 : Int) < v1 := fun z => c (decide_eq_true z)
      obtain ⟨n, hn⟩ := Int.eq_ofNat_of_zero_le v10
      exact ⟨rfl, n, by omega, by rw [← hn]; rfl⟩
  · rintro σ' H' ⟨rfl, n, hn, rfl⟩
    refine ⟨(by show 0 ≤ sizeLine; decide), fun t0 ht0 => ?_⟩
    have k2 : Kp [] H' (upd H' t0 (.tup [])) := Kp.new ht0 _
    refine ⟨_, rfl, _, rfl, L, n, rfl, hL1.kp k2 (by simp), hn, fun D nms H2 hD0 hD hnl hL2 k3 => ?_⟩
    have hDL : D ∉ [L] := fun z => (hL1.kp k2 (by simp)).ne hD0 (List.mem_singleton.mp z)
    refine ⟨D, rfl, ⟨_, SqL.of hD⟩, ?_⟩
    refine for_list (K := K) (a := D) (xs := nms.map V.str) (fun i σ H' => ∃ (bs : Bxs) (b : Addr) (v5 v6 : Option V), σ = [some (.ref L), some (.int (m : Int)), some (.int (n : Int)), some (.ref b), some (.int ((prod (bs.map (·.2)) : Nat) : Int)), v5, v6] ∧
        BoxAt H' b bs ∧ bs.length = i ∧ (∀ z ∈ bs.map (·.2), 1 ≤ z) ∧ prod (bs.map (·.2)) ≤ m ∧ LeftAt H' L ∧ Kp [L] H2 H')
      ⟨[], t0, _, _, rfl, ⟨[], k3.tup _ _ upd_same, rfl, fun i nm z q => by simp at q⟩, rfl, fun z hz => by simp at hz, hm1, hL2, Kp.refl _ _⟩ (fun i σ H' _ ⟨_, _, _, _, _, _, _, _, _, _, kp⟩ => SqL.of (kp.lst hD hDL)) ?_ ?_
    · rintro i y σ H3 hi ⟨bs, b, v5, v6, rfl, B, hbl, hpos, hpr, hL3, kp⟩
      obtain ⟨nm, rfl⟩ : ∃ nm, y = V.str nm := by
        rw [List.getElem?_map] at hi
        cases q : nms[i]? with
        | none => rw [q] at hi; cases hi
        | some x => rw [q] at hi; exact ⟨x, (Option.some.inj hi).symm⟩
      have hi9 : i < n := by
        have z := (List.getElem?_eq_some_iff.mp hi).1
        rw [List.length_map, hnl] at z
        exact z
      refine ⟨_, rfl, L, 9, rfl, hL3, by decide, fun v2 H4 v20 v21 hL4 k4 => ?_⟩
      refine ⟨_, _, rfl, rfl, ?_⟩
      refine ⟨fun σ' H' => H' = H4 ∧ ∃ sz : Int, 1 ≤ sz ∧ σ' = [some (.ref L), some (.int (m : Int)), some (.int (n : Int)), some (.ref b), some (.int ((prod (bs.map (·.2)) : Nat) : Int)), some (.str nm), some (.int sz)], ?_, ?_⟩
      · refine ⟨_, rfl, _, _, rfl, rfl, _, rfl, ?_⟩
        refine ite2 (fun _ => ⟨_, rfl, _, _, rfl, rfl, _, rfl, ite2 (fun _ => ?_) (fun _ => ?_)⟩) (fun _ => iteF ?_)
        · have h0 := Int.emod_nonneg (1 + v2) (by decide : (3 : Int) ≠ 0)
          exact ⟨_, rfl, _, _, rfl, rfl, (by show (0 : Int) < 3; decide), _, _, rfl, rfl, rfl, _, by omega, rfl⟩
        all_goals exact ⟨rfl, 1 + v2, by omega, rfl⟩
      · rintro σ' H' ⟨rfl, sz, hsz, rfl⟩
        have hp1 := prod_pos hpos
        obtain ⟨z, ez, hz1, hzm⟩ := min_fit hp1 hpr hsz
        refine ⟨_, rfl, _, rfl, _, rfl, _, _, rfl, rfl, ⟨by omega, by omega⟩, _, _, rfl, ?_⟩
        rw [ez]
        obtain ⟨as, b1, b2, b3⟩ := B.kp k4
        refine ⟨_, rfl, _, rfl, _, rfl, (by show 2 ≤ sizeLine; decide), fun t1 ht1 => ?_⟩
        have n1 : Kp [] H' (upd H' t1 (.tup [.str nm, .int (z : Int)])) := Kp.new ht1 _
        refine ⟨(by show 1 ≤ sizeLine; decide), fun t2 ht2 => ?_⟩
        have n2 : Kp [] H' (upd (upd H' t1 (.tup [.str nm, .int (z : Int)])) t2 (.tup [.ref t1])) := n1.trans (Kp.new ht2 _)
        refine ⟨b, t2, _, _, rfl, rfl, n2.tup _ _ b1, upd_same, ?_, fun t3 H5 k5 ht3 => ?_⟩
        · rw [List.length_map, List.length_singleton, b2]
          exact Nat.le_of_lt (mill (by omega))
        have k45 : Kp [] H' H5 := n2.trans k5
        have ht1' : H5 t1 = some (.tup [.str nm, .int (z : Int)]) := k5.tup _ _ ((Kp.new (ex := []) ht2 _).tup _ _ upd_same)
        refine ⟨_, rfl, _, rfl, _, _, rfl, rfl, .inl ⟨by omega, by omega⟩, ?_⟩
        have hmap : (bs ++ [(nm, z)]).map (·.2) = bs.map (·.2) ++ [z] := by rw [List.map_append]; rfl
        refine ⟨bs ++ [(nm, z)], t3, some (.str nm), some (.int (z : Int)), ?_, ⟨as ++ [t1], by rw [ht3, List.map_append]; rfl, by rw [List.length_append, List.length_append, b2]; rfl, fun j nm' z' q => ?_⟩, by rw [List.length_append, hbl]; rfl, fun y hy => ?_, ?_, hL4.kp k45 (by simp), kp.trans (k4.trans (Kp.of0 k45))⟩
        · rw [hmap, snoc_prod]
          rfl
        · by_cases hj : j < bs.length
          · rw [List.getElem?_append_left hj] at q
            obtain ⟨a, c1, c2⟩ := b3 j nm' z' q
            exact ⟨a, by rw [List.getElem?_append_left (by omega)]; exact c1, k45.tup _ _ c2⟩
          · have ej : j = bs.length := by
              have z2 := (List.getElem?_eq_some_iff.mp q).1
              rw [List.length_append, List.length_singleton] at z2
              omega
            subst ej
            rw [List.getElem?_append_right (Nat.le_refl _), Nat.sub_self] at q
            have q2 : (nm, z) = (nm', z') := by simpa using q
            cases q2
            exact ⟨t1, by rw [List.getElem?_append_right (by omega), b2, Nat.sub_self]; rfl, ht1'⟩
        · rw [hmap] at hy
          rcases List.mem_append.mp hy with q | q
          · exact hpos y q
          · rw [List.mem_singleton.mp q]
            exact hz1
        · rw [hmap, snoc_prod]
          exact hzm
    · rintro σ H3 ⟨bs, b, v5, v6, rfl, B, hbl, hpos, hpr, hL3, kp⟩
      exact ⟨_, rfl, k b bs H3 B (by rw [hbl, List.length_map, hnl]; exact hn) hpos hpr hL3 (k1.trans ((Kp.of0 k2).trans (k3.trans kp)))⟩
end
end Lots
end
section
set_option Elab.async false
set_option maxRecDepth 100000
set_option maxHeartbeats 4000000
set_option linter.unusedSectionVars false
namespace Lots
open PySem PySem.Spec PyProof.Rows L2
variable [TabP]
section
variable {P : Program} {w : World} {K : PySem.W.Frag} {mg : Str → Option Value} {base : Heap}
/-! ### state -/
def spState : Sp := fun vs H Q _ => ∃ (L b : Addr) (bs : Bxs), vs = [.ref L, .ref b] ∧ LeftAt H L ∧ BoxAt H b bs ∧ bs.length ≤ 9 ∧ (∀ z ∈ bs.map (·.2), 1 ≤ z) ∧ ∀ (sa : Addr) (s : List Nat) (H' : Hp), H' sa = some (.tup (vI s)) → Valid (bs.map (·.2)) s → LeftAt H' L → Kp [L] H H' → Q (.ref sa) H'
theorem scState : FnScope ["_law_left", "_law_boxes_here", "_law_box"] ["_law_left", "_law_boxes_here"] (defScope sState) := ⟨rfl, rfl, rfl, by decide +kernel, rfl, by decide +kernel, by decide +kernel⟩
theorem ok_state (T : Tx K mg) : FnOk P w K mg base CX0 2 T.state.f T.state.fd ["_law_left", "_law_boxes_here"] spState := by
  refine T.state.F.ok scState (fun vs H Q E h => ?_) (fun cdv A outer s0 H vs Q E hr h => ?_)
  · obtain ⟨L, b, bs, rfl, _⟩ := h
    rfl
  obtain ⟨L, b, bs, rfl, hL, ⟨as, b1, b2, b3⟩, hbs, hpos, k⟩ := h
  have GT := ok_take (P := P) (w := w) (base := base) T
  refine ⟨_, pss_one (ps_ret (pe_callTy call_tuple_of (by rfl) T.tuple (by decide +kernel) (pa_cons (pe_lc (own := [("_law_box", 2)]) (g := gName 2) (tt := tYes) rfl scState.nd (pi_tup (pv 1))
    (blkOk_by (N := ["_law_left", "_law_boxes_here", "_law_box"]) (sc := defScope sState) (by decide +kernel)) (fun _ _ _ _ _ => pg_name (i := 2) scState.nd rfl (Or.inl rfl)) (fun _ _ _ _ _ => pts_nil)
    (fun _ _ _ _ _ => pe_call GT hr rfl T.take.m T.take.F.kp T.take.b .nil pass0 (pa_cons (pv 0) (pa_cons (pe_ix (ixT K rfl) (pv 2) pe_int (fun _ _ => rfl)) pa_nil)))) pa_nil))), ?_⟩
  refine ⟨_, rfl, b, rfl, ⟨_, SqT.of b1⟩, fun D hD => ?_⟩
  have hDL : L ≠ D := (hL.ne hD).symm
  refine lc_tup (xs := as.map V.ref) (fun i H' => Kp [L] H H' ∧ LeftAt H' L ∧ ∃ s : List Nat, H' D = some (.lst (vI s)) ∧ s.length = i ∧ ∀ j a z : Nat, s[j]? = some a → (bs.map (·.2))[j]? = some z → a < z)
    ⟨Kp.new hD _, hL.kp (Kp.new (ex := []) hD _) (by simp), [], upd_same, rfl, fun j a z q => by simp at q⟩ (fun i H' _ ⟨kp, _⟩ => SqT.of (kp.tup _ _ b1)) ?_ ?_
  · rintro i y H' hi ⟨kp, hL1, s, hDi, hsl, hv⟩
    obtain ⟨nm, z, a, e1, rfl, e3⟩ := box_nm b3 b2 hi
    have hib := (List.getElem?_eq_some_iff.mp e1).1
    have hz : (bs.map (·.2))[i]? = some z := by rw [List.getElem?_map, e1]; rfl
    have hz1 := hpos z (List.mem_of_getElem? hz)
    refine ⟨rfl, tYes_of ?_⟩
    refine iteT ?_
    refine ⟨_, rfl, _, rfl, a, _, _, _, rfl, rfl, SqT.of (kp.tup _ _ e3), at1, L, (z : Int), rfl, hL1, by omega, fun v H2 v0 v1 hL2 k2 => ?_⟩
    obtain ⟨n, rfl⟩ := Int.eq_ofNat_of_zero_le v0
    have hD2 : H2 D = some (.lst (vI s)) := k2.lst hDi (fun q => hDL (List.mem_singleton.mp q).symm)
    refine ⟨_, hD2, by rw [List.length_map, hsl]; exact mill (by omega), (kp.trans k2).wrN hD hD2 _, hL2.kp (Kp.wrL (ex := [D]) hD2 (by simp) _) (fun q => hDL (List.mem_singleton.mp q)), s ++ [n], ?_, by rw [List.length_append, hsl]; rfl, fun j x y hx hy => ?_⟩
    · rw [upd_same]
      show _ = some (HO.lst ((s ++ [n]).map _))
      rw [List.map_append]
      rfl
    · by_cases hj : j < s.length
      · rw [List.getElem?_append_left hj] at hx
        exact hv j x y hx hy
      · have ej : j = s.length := by
          have z2 := (List.getElem?_eq_some_iff.mp hx).1
          rw [List.length_append, List.length_singleton] at z2
          omega
        subst ej
        rw [List.getElem?_append_right (Nat.le_refl _), Nat.sub_self] at hx
        have hx2 : n = x := by simpa using hx
        rw [hsl, hz] at hy
        cases hy
        omega
  · rintro H' ⟨kp, hL1, s, hDi, hsl, hv⟩
    rw [List.length_map, b2] at hsl
    exact ⟨D, _, rfl, .inl ⟨SqL.of hDi, fun t ht => k t s _ upd_same ⟨by rw [hsl, List.length_map], hv⟩ (hL1.kp (Kp.new (ex := []) ht _) (by simp)) (kp.trans (Kp.new ht _))⟩⟩
/-! ### operand, test -/
def spOperand : Sp := fun vs H Q _ => ∃ (L b : Addr) (bs : Bxs), vs = [.ref L, .ref b] ∧ LeftAt H L ∧ BoxAt H b bs ∧ bs.length ≤ 9 ∧ ∀ (o : Opn) (H' : Hp), OpOk bs o → LeftAt H' L → Kp [L] H H' → Q (opV o) H'
theorem scOperand : FnScope ["_law_left", "_law_boxes_here", "_law_way"] ["_law_left", "_law_boxes_here"] (defScope sOperand) := ⟨rfl, rfl, rfl, by decide +kernel, rfl, by decide +kernel, by decide +kernel⟩
theorem ok_operand (T : Tx K mg) : FnOk P w K mg base CX0 2 T.operand.f T.operand.fd ["_law_left", "_law_boxes_here"] spOperand := by
  refine T.operand.F.ok scOperand (fun vs H Q E h => ?_) (fun cdv A outer s0 H vs Q E hr h => ?_)
  · obtain ⟨L, b, bs, rfl, _⟩ := h
    rfl
  obtain ⟨L, b, bs, rfl, hL, ⟨as, b1, b2, b3⟩, hbs, k⟩ := h
  have GT := ok_take (P := P) (w := w) (base := base) T
  have GLen := @call_len_seq
  refine ⟨_, pss_cons (ps_set (i := 2) scOperand.nd rfl (Or.inl rfl) (pe_call GT hr rfl T.take.m T.take.F.kp T.take.b .nil pass0 (pa_cons (pv 0) (pa_cons (pe_op op_add (pe_op op_mul pe_int (pe_callB call_len_seq (by rfl) T.len PySem.boot_len (pa_cons (pv 1) pa_nil))) pe_int) pa_nil))))
    (pss_cons (ps_if (pt_cmpR op_gt (pv 2) pe_int (nomark _)) (pss_one (ps_ret (pe_ix ix_tup (pe_ix ix_tup (pv 1) (pe_op op_mod (pv 2) (pe_callB call_len_seq (by rfl) T.len PySem.boot_len (pa_cons (pv 1) pa_nil))) (fun _ _ => rfl)) pe_int (fun _ _ => rfl)))) pss_nil)
    (pss_cons (ps_if (pt_cmpR op_eq (pv 2) pe_int (nomark _)) (pss_one (ps_ret (pe_call GT hr rfl T.take.m T.take.F.kp T.take.b .nil pass0 (pa_cons (pv 0) (pa_cons (pe_op op_pow pe_int pe_int) pa_nil))))) pss_nil)
    (pss_one (ps_ret (pe_call GT hr rfl T.take.m T.take.F.kp T.take.b .nil pass0 (pa_cons (pv 0) (pa_cons pe_int pa_nil))))))), ?_⟩
  have hal : (as.map V.ref).length = bs.length := by rw [List.length_map, b2]
  refine ⟨_, rfl, _, rfl, b, _, rfl, .inr (SqT.of b1), _, _, rfl, rfl, .inl ⟨by decide, by decide⟩, _, _, rfl, rfl, L, _, rfl, hL, by omega, fun v1 H1 v10 v11 hL1 k1 => ?_⟩
  rw [hal] at v11
  refine ⟨_, rfl, _, _, rfl, rfl, _, rfl, ?_⟩
  refine ite2 (fun c => ?_) (fun _ => ?_)
  · have c' : (2 : Int) < v1 := of_decide_eq_true c
    have h0 : 0 < bs.length := by omega
    have hm0 := Int.emod_nonneg v1 (by omega : (bs.length : Int) ≠ 0)
    have hm1 := Int.emod_lt_of_pos v1 (by omega : (0 : Int) < (bs.length : Int))
    obtain ⟨j, hj⟩ := Int.eq_ofNat_of_zero_le hm0
    have hjb : j < bs.length := by omega
    obtain ⟨a, a1, a2⟩ := b3 j bs[j].1 bs[j].2 (List.getElem?_eq_getElem hjb)
    have b1' := k1.tup _ _ b1
    refine ⟨_, rfl, _, rfl, _, rfl, b, _, rfl, .inr (SqT.of b1'), _, _, rfl, rfl, by rw [hal]; omega, ?_⟩
    rw [hal]
    refine ⟨b, _, _, _, rfl, rfl, SqT.of b1', at_of hj (by rw [List.getElem?_map, a1]; rfl), a, _, _, _, rfl, rfl, SqT.of (k1.tup _ _ a2), at0, ?_⟩
    exact k (.nam bs[j].1) H1 ⟨bs[j], List.getElem_mem hjb, rfl⟩ hL1 k1
  · refine ⟨_, rfl, rfl, _, rfl, ?_⟩
    refine ite2 (fun _ => ?_) (fun _ => ?_)
    · exact ⟨_, rfl, _, _, rfl, rfl, ⟨by decide, by decide, by decide⟩, L, _, rfl, hL1, by decide, fun v2 H2 v20 v21 hL2 k2 => k (.num v2) H2 trivial hL2 (k1.trans k2)⟩
    · exact ⟨_, rfl, L, _, rfl, hL1, by decide, fun v2 H2 v20 v21 hL2 k2 => k (.num v2) H2 trivial hL2 (k1.trans k2)⟩
def spTest : Sp := fun vs H Q _ => ∃ (L b : Addr) (bs : Bxs), vs = [.ref L, .ref b] ∧ LeftAt H L ∧ BoxAt H b bs ∧ bs.length ≤ 9 ∧ ∀ (ta : Addr) (t : Tst) (H' : Hp), TstAt H' ta t → OpOk bs t.a → OpOk bs t.b → LeftAt H' L → Kp [L] H H' → Q (.ref ta) H'
theorem scTest : FnScope ["_law_left", "_law_boxes_here", "_law_one", "_law_sign"] ["_law_left", "_law_boxes_here"] (defScope sTest) := ⟨rfl, rfl, rfl, by decide +kernel, rfl, by decide +kernel, by decide +kernel⟩
theorem sign_at {v : Int} (h0 : 0 ≤ v) (h1 : v < 3) : ∃ (c : Nat) (g : Sg), ("=<#" : Str).cps[v.toNat]? = some c ∧ (⟨#[c]⟩ : Str) = sgS g := by
  have e : v = 0 ∨ v = 1 ∨ v = 2 := by omega
  rcases e with rfl | rfl | rfl
  · exact ⟨61, .eq, by decide +kernel, by decide +kernel⟩
  · exact ⟨60, .lt, by decide +kernel, by decide +kernel⟩
  · exact ⟨35, .ne, by decide +kernel, by decide +kernel⟩
theorem ok_test (T : Tx K mg) : FnOk P w K mg base CX0 3 T.test.f T.test.fd ["_law_left", "_law_boxes_here"] spTest := by
  refine T.test.F.ok scTest (fun vs H Q E h => ?_) (fun cdv A outer s0 H vs Q E hr h => ?_)
  · obtain ⟨L, b, bs, rfl, _⟩ := h
    rfl
  obtain ⟨L, b, bs, rfl, hL, B, hbs, k⟩ := h
  have GT := ok_take (P := P) (w := w) (base := base) T
  have GO := ok_operand (P := P) (w := w) (base := base) T
  refine ⟨_, pss_cons (ps_set (i := 2) scTest.nd rfl (Or.inl rfl) (pe_call GO hr rfl T.operand.m T.operand.F.kp T.operand.b .nil pass0 (pa_cons (pv 0) (pa_cons (pv 1) pa_nil))))
    (pss_cons (ps_set (i := 3) scTest.nd rfl (Or.inl rfl) (pe_item_str pe_str (pe_call GT (hr.mono (by decide)) rfl T.take.m T.take.F.kp T.take.b .nil pass0 (pa_cons (pv 0) (pa_cons pe_int pa_nil))) (fun _ _ => rfl)))
    (pss_one (ps_ret (pe_tup (pa_cons (pv 2) (pa_cons (pv 3) (pa_cons (pe_call GO hr rfl T.operand.m T.operand.F.kp T.operand.b .nil pass0 (pa_cons (pv 0) (pa_cons (pv 1) pa_nil))) pa_nil))))))), ?_⟩
  refine ⟨_, rfl, _, rfl, L, b, bs, rfl, hL, B, hbs, fun o1 H1 oo1 hL1 k1 => ?_⟩
  refine ⟨_, rfl, L, 3, rfl, hL1, by decide, fun v H2 v0 v1 hL2 k2 => ?_⟩
  obtain ⟨c, g, hc, hg⟩ := sign_at v0 v1
  refine ⟨_, v, c, rfl, rfl, v0, Int.lt_trans v1 (by decide), ?_, hc, ?_⟩
  · have e : ("=<#" : Str).length = 3 := by decide +kernel
    rw [e]
    exact v1
  rw [hg]
  refine ⟨_, rfl, _, rfl, _, rfl, _, rfl, L, b, bs, rfl, hL2, B.kp (k1.trans k2), hbs, fun o2 H3 oo2 hL3 k3 => ⟨(by show 3 ≤ sizeLine; decide), fun ta hta => ?_⟩⟩
  exact k ta ⟨o1, g, o2⟩ _ upd_same oo1 oo2 (hL3.kp (Kp.new (ex := []) hta _) (by simp)) ((k1.trans (k2.trans k3)).trans (Kp.new hta _))
end
end Lots
end
section
set_option Elab.async false
set_option maxRecDepth 100000
set_option maxHeartbeats 4000000
set_option linter.unusedSectionVars false
namespace Lots
open PySem PySem.Spec PyProof.Rows L2
variable [TabP]
section
variable {P : Program} {w : World} {K : PySem.W.Frag} {mg : Str → Option Value} {base : Heap}
/-! ### low, ratio -/
def spLow : Sp := fun vs H Q _ => ∃ (t b : Int), vs = [.int t, .int b] ∧ 1 ≤ b ∧ b.natAbs < 2 ^ 250 ∧ t.natAbs < 2 ^ 250 ∧ ∀ (r : Addr) (v : Frac) (H' : Hp), FrAt H' r v → Kp [] H H' → Q (.ref r) H'
theorem scLow : FnScope ["_law_top", "_law_bottom", "_law_one", "_law_other", "_law_kept"] ["_law_top", "_law_bottom"] (defScope sLow) := ⟨rfl, rfl, rfl, by decide +kernel, rfl, by decide +kernel, by decide +kernel⟩
theorem ok_low (T : Tx K mg) : FnOk P w K mg base CX0 1 T.low.f T.low.fd ["_law_top", "_law_bottom"] spLow := by
  refine T.low.F.ok scLow (fun vs H Q E h => ?_) (fun cdv A outer s0 H vs Q E hr h => ?_)
  · obtain ⟨t, b, rfl, _⟩ := h
    rfl
  obtain ⟨t, b, rfl, hb1, hb, ht, k⟩ := h
  refine ⟨_, pss_cons (ps_set (i := 2) scLow.nd rfl (Or.inl rfl) (pe_callB call_abs (by rfl) T.abs (by decide +kernel) (pa_cons (pv 0) pa_nil)))
    (pss_cons (ps_set (i := 3) scLow.nd rfl (Or.inl rfl) (pv 1))
    (pss_cons (ps_while PassesOwn.never (pt_cmpR op_gt (pv 3) pe_int (nomark _))
      (pss_cons (ps_set (i := 4) scLow.nd rfl (Or.inl rfl) (pe_op op_mod (pv 2) (pv 3)))
      (pss_cons (ps_set (i := 2) scLow.nd rfl (Or.inl rfl) (pv 3))
      (pss_one (ps_set (i := 3) scLow.nd rfl (Or.inl rfl) (pv 4))))))
    (pss_one (ps_ret (pe_tup (pa_cons (pe_op op_fdivW (pv 0) (pv 2)) (pa_cons (pe_op op_fdivW (pv 1) (pv 2)) pa_nil))))))), ?_⟩
  have h0 : (if t < 0 then -t else t) = (t.natAbs : Int) := by split <;> omega
  refine ⟨_, rfl, _, rfl, ?_⟩
  rw [h0]
  refine ⟨_, rfl, ?_⟩
  refine ⟨fun m σ H' => H' = H ∧ ∃ (x : Int) (v : Option V), σ = [some (.int t), some (.int b), some (.int x), some (.int (m : Int)), v] ∧ 0 ≤ x ∧ 0 < x + m ∧ x.natAbs < 2 ^ 250 ∧ m < 2 ^ 250,
    ⟨b.toNat, rfl, (t.natAbs : Int), none, ?_, Int.natCast_nonneg _, by omega, by omega, by omega⟩, fun m σ H' h => ?_⟩
  · show _ = [some (V.int t), some (V.int b), some (V.int _), some (V.int ((b.toNat : Nat) : Int)), none]
    rw [Int.toNat_of_nonneg (by omega)]
    rfl
  obtain ⟨rfl, x, v, rfl, hx0, hxm, hx, hm⟩ := h
  refine ⟨_, rfl, _, _, rfl, rfl, _, rfl, ?_⟩
  refine ite2 (fun c => ?_) (fun c => ?_)
  · have c' : (0 : Int) < (m : Int) := of_decide_eq_true c
    refine ⟨fun σ' H'' => H'' = H' ∧ ∃ (y : Nat), y < m ∧ σ' = [some (.int t), some (.int b), some (.int (m : Int)), some (.int (y : Int)), some (.int (y : Int))], fun σ' H'' ⟨e, y, hy, q⟩ => ⟨y, hy, e, _, _, q, Int.natCast_nonneg _, by omega, by omega, by omega⟩, ?_⟩
    refine ⟨_, rfl, _, rfl, _, _, rfl, rfl, c', _, rfl, _, rfl, rfl, ?_⟩
    have e0 := Int.emod_nonneg x (by omega : (m : Int) ≠ 0)
    have e1 := Int.emod_lt_of_pos x c'
    obtain ⟨y, hy⟩ := Int.eq_ofNat_of_zero_le e0
    refine ⟨y, by omega, ?_⟩
    show [some (V.int t), some (V.int b), some (V.int (m : Int)), some (V.int (x % (m : Int))), some (V.int (x % (m : Int)))] = _
    rw [hy]
  · have c' : ¬ (0 : Int) < (m : Int) := fun z => c (decide_eq_true z)
    have hx1 : 0 < x := by omega
    have hw : ∀ i, CDivW i x := fun i => wide_div hx1 hx (by decide) (by decide)
    refine ⟨_, rfl, _, rfl, _, _, rfl, rfl, hw _, _, rfl, _, rfl, _, _, rfl, rfl, hw _, (by show 2 ≤ sizeLine; decide), fun r hr' => ?_⟩
    exact k r (t / x, b / x) _ upd_same (Kp.new hr' _)
def spRatio : Sp := fun vs H Q _ => ∃ (L : Addr), vs = [.ref L] ∧ LeftAt H L ∧ ∀ (r : Addr) (v : Frac) (H' : Hp), FrAt H' r v → LeftAt H' L → Kp [L] H H' → Q (.ref r) H'
theorem scRatio : FnScope ["_law_left", "_law_way", "_law_top"] ["_law_left"] (defScope sRatio) := ⟨rfl, rfl, rfl, by decide +kernel, rfl, by decide +kernel, by decide +kernel⟩
theorem ok_ratio (T : Tx K mg) : FnOk P w K mg base CX0 2 T.ratio.f T.ratio.fd ["_law_left"] spRatio := by
  refine T.ratio.F.ok scRatio (fun vs H Q E h => ?_) (fun cdv A outer s0 H vs Q E hr h => ?_)
  · obtain ⟨L, rfl, _⟩ := h
    rfl
  obtain ⟨L, rfl, hL, k⟩ := h
  have GT := ok_take (P := P) (w := w) (base := base) T
  have GL := ok_low (P := P) (w := w) (base := base) T
  refine ⟨_, pss_cons (ps_set (i := 1) scRatio.nd rfl (Or.inl rfl) (pe_call GT hr rfl T.take.m T.take.F.kp T.take.b .nil pass0 (pa_cons (pv 0) (pa_cons pe_int pa_nil))))
    (pss_cons (ps_if (pt_cmpR op_eq (pv 1) pe_int (nomark _))
      (pss_cons (ps_set (i := 2) scRatio.nd rfl (Or.inl rfl) (pe_op op_add (pe_op op_sub (pe_call GT hr rfl T.take.m T.take.F.kp T.take.b .nil pass0 (pa_cons (pv 0) (pa_cons (pe_op op_sub (pe_op op_mul pe_int (pe_op op_pow pe_int pe_int)) pe_int) pa_nil))) (pe_op op_pow pe_int pe_int)) pe_int))
      (pss_one (ps_ret (pe_call GL hr rfl T.low.m T.low.F.kp T.low.b .nil pass0 (pa_cons (pv 2) (pa_cons (pe_op op_add pe_int (pe_call GT hr rfl T.take.m T.take.F.kp T.take.b .nil pass0 (pa_cons (pv 0) (pa_cons (pe_op op_sub (pe_op op_pow pe_int pe_int) pe_int) pa_nil)))) pa_nil))))))
      pss_nil)
    (pss_cons (ps_if (pt_cmpR op_eq (pv 1) pe_int (nomark _))
      (pss_one (ps_ret (pe_call GL hr rfl T.low.m T.low.F.kp T.low.b .nil pass0 (pa_cons (pe_op op_sub (pe_call GT hr rfl T.take.m T.take.F.kp T.take.b .nil pass0 (pa_cons (pv 0) (pa_cons pe_int pa_nil))) pe_int) (pa_cons (pe_op op_add pe_int (pe_call GT hr rfl T.take.m T.take.F.kp T.take.b .nil pass0 (pa_cons (pv 0) (pa_cons pe_int pa_nil)))) pa_nil)))))
      pss_nil)
    (pss_one (ps_ret (pe_tup (pa_cons (pe_op op_sub (pe_call GT hr rfl T.take.m T.take.F.kp T.take.b .nil pass0 (pa_cons (pv 0) (pa_cons pe_int pa_nil))) (pe_op op_fdiv (pv 1) pe_int)) (pa_cons pe_int pa_nil))))))), ?_⟩
  have p60 : (10 : Int) ^ (60 : Int).toNat = 1000000000000000000000000000000000000000000000000000000000000 := by decide
  have p300 : (1000000000000000000000000000000000000000000000000000000000000 : Nat) * 4 < 2 ^ 250 := by decide
  refine ⟨_, rfl, L, 4, rfl, hL, by decide, fun v1 H1 v10 v11 hL1 k1 => ?_⟩
  refine ⟨_, rfl, rfl, _, rfl, ?_⟩
  refine ite2 (fun _ => ?_) (fun _ => ?_)
  · refine ⟨_, rfl, _, _, rfl, rfl, ⟨by decide, by decide, by decide⟩, _, _, rfl, rfl, .inl ⟨by decide, by decide⟩, _, _, rfl, rfl, L, _, rfl, hL1, by decide, fun v2 H2 v20 v21 hL2 k2 => ?_⟩
    refine ⟨_, _, rfl, rfl, ⟨by decide, by decide, by decide⟩, _, _, rfl, rfl, _, _, rfl, rfl, ?_⟩
    refine ⟨_, rfl, _, rfl, _, _, rfl, rfl, ⟨by decide, by decide, by decide⟩, _, _, rfl, rfl, L, _, rfl, hL2, by decide, fun v3 H3 v30 v31 hL3 k3 => ?_⟩
    rw [p60] at v21 v31
    refine ⟨_, _, rfl, rfl, v2 - 10 ^ (60 : Int).toNat + 1, 1 + v3, rfl, by omega, by omega, by rw [p60]; omega, fun r v H4 hv k4 => ?_⟩
    exact k r v H4 hv (hL3.kp k4 (by simp)) (k1.trans (k2.trans (k3.trans (Kp.of0 k4))))
  · refine ⟨_, rfl, rfl, _, rfl, ?_⟩
    refine ite2 (fun _ => ?_) (fun _ => ?_)
    · refine ⟨_, rfl, L, 21, rfl, hL1, by decide, fun v2 H2 v20 v21 hL2 k2 => ⟨_, _, rfl, rfl, ?_⟩⟩
      refine ⟨_, rfl, L, 10, rfl, hL2, by decide, fun v3 H3 v30 v31 hL3 k3 => ⟨_, _, rfl, rfl, v2 - 10, 1 + v3, rfl, by omega, by omega, by omega, fun r v H4 hv k4 => ?_⟩⟩
      exact k r v H4 hv (hL3.kp k4 (by simp)) (k1.trans (k2.trans (k3.trans (Kp.of0 k4))))
    · refine ⟨_, rfl, L, 3, rfl, hL1, by decide, fun v2 H2 v20 v21 hL2 k2 => ?_⟩
      refine ⟨_, rfl, _, _, rfl, rfl, ⟨by decide, by decide⟩, _, _, rfl, rfl, (by show 2 ≤ sizeLine; decide), fun r hr' => ?_⟩
      exact k r (v2 - v1 / 3, 1) _ upd_same (hL2.kp (Kp.new (ex := []) hr' _) (by simp)) (k1.trans (k2.trans (Kp.new hr' _)))
end
end Lots
end
section
set_option Elab.async false
set_option maxRecDepth 100000
set_option maxHeartbeats 4000000
set_option linter.unusedSectionVars false
namespace Lots
open PySem PySem.Spec PyProof.Rows L2
variable [TabP]
section
variable {P : Program} {w : World} {K : PySem.W.Frag} {mg : Str → Option Value} {base : Heap}
/-! ### same, of equal ints and of equal fractions; whole -/
theorem boot_tuple' : bootBuiltins "tuple" = some (.type "tuple") := by decide +kernel
theorem boot_list' : bootBuiltins "list" = some (.type "list") := by decide +kernel
theorem boot_bool' : bootBuiltins "bool" = some (.type "bool") := by decide +kernel
theorem k_it : kitB "int" "tuple" = some false := by decide +kernel
theorem k_il : kitB "int" "list" = some false := by decide +kernel
theorem k_is' : kitB "int" "str" = some false := by decide +kernel
theorem k_ii : kitB "int" "int" = some true := by decide +kernel
theorem k_ib : kitB "int" "bool" = some false := by decide +kernel
theorem k_tt : kitB "tuple" "tuple" = some true := by decide +kernel
def spSame0 : Sp := fun vs H Q _ => ∃ i : Int, vs = [.int i, .int i] ∧ Q (.bl true) H
abbrev nS : List Str := ["_law_found", "_law_due", "_law_k"]
theorem scSame : FnScope nS ["_law_found", "_law_due"] (defScope sSame) := ⟨rfl, rfl, rfl, by decide +kernel, rfl, by decide +kernel, by decide +kernel⟩
theorem ok_same0 (T : Tx K mg) : FnOk P w K mg base CX0 1 T.same.f T.same.fd ["_law_found", "_law_due"] spSame0 := by
  refine T.same.F.ok scSame (fun vs H Q E h => ?_) (fun cdv A outer s0 H vs Q E hr h => ?_)
  · obtain ⟨i, rfl, _⟩ := h
    rfl
  obtain ⟨i, rfl, k⟩ := h
  refine ⟨_, pss_cons (ps_if (pt_val (pe_callB call_isi (by rfl) T.isi boot_isi' (pa_cons (pv 1) (pa_cons (pe_bltn (v := .ty "tuple") (by rfl) T.tuple boot_tuple' rfl) pa_nil)))) pss_never pss_nil)
    (pss_cons (ps_if (pt_val (pe_callB call_isi (by rfl) T.isi boot_isi' (pa_cons (pv 1) (pa_cons (pe_bltn (v := .ty "list") (by rfl) T.list boot_list' rfl) pa_nil)))) pss_never pss_nil)
    (pss_cons (ps_if (pt_cmpR op_isN (pv 1) pe_non (nomark _)) pss_never pss_nil)
    (pss_cons (ps_if (pt_val (pe_callB call_isi (by rfl) T.isi boot_isi' (pa_cons (pv 1) (pa_cons (pe_bltn (v := .ty "str") (by rfl) T.str boot_str' rfl) pa_nil)))) pss_never pss_nil)
    (pss_one (ps_ret (pe_and (pe_callB call_isi (by rfl) T.isi boot_isi' (pa_cons (pv 0) (pa_cons (pe_bltn (v := .ty "int") (by rfl) T.int boot_int' rfl) pa_nil)))
      (pe_and (pe_not (pe_callB call_isi (by rfl) T.isi boot_isi' (pa_cons (pv 0) (pa_cons (pe_bltn (v := .ty "bool") (by rfl) T.bool boot_bool' rfl) pa_nil))))
      (pe_one (pe_cmpR op_eq (pv 0) (pv 1) (nomark _)))))))))), ?_⟩
  refine ⟨_, rfl, _, .ty "tuple", _, _, false, rfl, .ty _, .base (.int _), kit_ty k_it, _, rfl, iteF ?_⟩
  refine ⟨_, rfl, _, .ty "list", _, _, false, rfl, .ty _, .base (.int _), kit_ty k_il, _, rfl, iteF ?_⟩
  refine ⟨_, rfl, rfl, _, rfl, ?_⟩
  refine ite2 (fun z => by have z := of_decide_eq_true z; cases z) (fun _ => ?_)
  refine ⟨_, rfl, _, .ty "str", _, _, false, rfl, .ty _, .base (.int _), kit_ty k_is', _, rfl, iteF ?_⟩
  refine ⟨_, rfl, _, .ty "int", _, _, true, rfl, .ty _, .base (.int _), kit_ty k_ii, _, rfl, iteT ?_⟩
  refine ⟨_, rfl, _, .ty "bool", _, _, false, rfl, .ty _, .base (.int _), kit_ty k_ib, _, rfl, _, rfl, iteT ?_⟩
  refine ⟨_, rfl, _, rfl, rfl, ?_⟩
  show Q (.bl (decide (V.int i = V.int i))) H
  rw [decide_eq_true rfl]
  exact k
def spSame : Sp := fun vs H Q _ => ∃ (f d : Addr) (v : Frac), vs = [.ref f, .ref d] ∧ FrAt H f v ∧ FrAt H d v ∧ ∀ H', Kp [] H H' → Q (.bl true) H'
theorem ok_same (T : Tx K mg) : FnOk P w K mg base CX0 2 T.same.f T.same.fd ["_law_found", "_law_due"] spSame := by
  refine T.same.F.ok scSame (fun vs H Q E h => ?_) (fun cdv A outer s0 H vs Q E hr h => ?_)
  · obtain ⟨f, d, v, rfl, _⟩ := h
    rfl
  obtain ⟨f, d, v, rfl, hf, hd, k⟩ := h
  have G := ok_same0 (P := P) (w := w) (base := base) T
  refine ⟨_, pss_cons (ps_if (pt_val (pe_callB call_isi (by rfl) T.isi boot_isi' (pa_cons (pv 1) (pa_cons (pe_bltn (v := .ty "tuple") (by rfl) T.tuple boot_tuple' rfl) pa_nil))))
      (pss_cons (ps_if (PW.pt (pw_or (pt_not (pt_val (pe_callB call_isi (by rfl) T.isi boot_isi' (pa_cons (pv 0) (pa_cons (pe_bltn (v := .ty "tuple") (by rfl) T.tuple boot_tuple' rfl) pa_nil)))))
        (pw_or1 (pt_cmpR op_ne (pe_callB call_len_seq (by rfl) T.len PySem.boot_len (pa_cons (pv 0) pa_nil)) (pe_callB call_len_seq (by rfl) T.len PySem.boot_len (pa_cons (pv 1) pa_nil)) (nomark _))))) pss_never pss_nil)
      (pss_one (ps_ret (pe_callB (cr_all rfl) (by rfl) T.all (by decide +kernel) (pa_cons (pe_lc (own := [("_law_k", 2)]) (g := gName 2) (tt := tYes) rfl scSame.nd (pi_range1 (by rfl) T.range (pa_cons (pe_callB call_len_seq (by rfl) T.len PySem.boot_len (pa_cons (pv 1) pa_nil)) pa_nil))
        (blkOk_by (N := nS) (sc := defScope sSame) (by decide +kernel)) (fun _ _ _ _ _ => pg_name (i := 2) scSame.nd rfl (Or.inl rfl)) (fun _ _ _ _ _ => pts_nil)
        (fun _ _ _ _ _ => pe_call G hr rfl T.same.m T.same.F.kp T.same.b .nil pass0 (pa_cons (pe_ix (ixT K rfl) (pv 0) (pv 2) (fun _ _ => rfl)) (pa_cons (pe_ix (ixT K rfl) (pv 1) (pv 2) (fun _ _ => rfl)) pa_nil)))) pa_nil)))))
      pss_nil)
    pss_never, ?_⟩
  refine ⟨_, rfl, _, .ty "tuple", _, _, true, rfl, .ty _, .base (.tup hd), kit_ty k_tt, _, rfl, iteT ?_⟩
  refine ⟨_, rfl, _, .ty "tuple", _, _, true, rfl, .ty _, .base (.tup hf), kit_ty k_tt, _, rfl, iteF ?_⟩
  refine ⟨_, rfl, f, _, rfl, .inr (SqT.of hf), _, rfl, d, _, rfl, .inr (SqT.of hd), rfl, _, rfl, ?_⟩
  refine ite2 (fun z => absurd z (by show ¬ (!decide (V.int 2 = V.int 2)) = true; rw [decide_eq_true rfl]; exact Bool.false_ne_true)) (fun _ => ?_)
  refine ⟨_, rfl, d, _, rfl, .inr (SqT.of hd), _, rfl, (by show -(2 ^ 62) ≤ (2 : Int); decide), (by show (2 : Int) < 2 ^ 62; decide), fun D hD => ?_⟩
  refine lc_range (lo := 0) (n := 2) (fun i H' => Kp [] H H' ∧ H' D = some (.lst ((List.replicate i true).map V.bl))) ⟨Kp.new hD _, upd_same⟩ ?_ ?_
  · rintro i H' hi ⟨kp, hDi⟩
    have hf' := kp.tup _ _ hf
    have hd' := kp.tup _ _ hd
    refine ⟨rfl, tYes_of ?_⟩
    refine iteT ?_
    have e2 : i = 0 ∨ i = 1 := by omega
    have fin : ∃ acc, H' D = some (.lst acc) ∧ acc.length < sizeLine ∧ Kp [] H (upd H' D (.lst (acc ++ [.bl true]))) ∧ upd H' D (.lst (acc ++ [.bl true])) D = some (.lst ((List.replicate (i + 1) true).map V.bl)) := by
      refine ⟨_, hDi, by rw [List.length_map, List.length_replicate]; exact mill (by omega), kp.wrN hD hDi _, ?_⟩
      rw [upd_same, List.replicate_succ', List.map_append]
      rfl
    rcases e2 with rfl | rfl
    · exact ⟨_, rfl, _, rfl, f, _, _, _, rfl, rfl, SqT.of hf', at0, _, rfl, _, rfl, d, _, _, _, rfl, rfl, SqT.of hd', at0, v.1, rfl, fin⟩
    · exact ⟨_, rfl, _, rfl, f, _, _, _, rfl, rfl, SqT.of hf', at1, _, rfl, _, rfl, d, _, _, _, rfl, rfl, SqT.of hd', at1, v.2, rfl, fin⟩
  · rintro H' ⟨kp, hDi⟩
    exact ⟨D, _, rfl, SqL.of hDi, k H' kp⟩
def spWhole : Sp := fun vs H Q _ => ∃ i : Int, vs = [.int i] ∧ Q (.bl true) H
theorem scWhole : FnScope ["_law_found"] ["_law_found"] (defScope sWhole) := ⟨rfl, rfl, rfl, by decide +kernel, rfl, by decide +kernel, by decide +kernel⟩
theorem ok_whole (T : Tx K mg) : FnOk P w K mg base CX0 1 T.whole.f T.whole.fd ["_law_found"] spWhole := by
  refine T.whole.F.ok scWhole (fun vs H Q E h => ?_) (fun cdv A outer s0 H vs Q E hr h => ?_)
  · obtain ⟨i, rfl, _⟩ := h
    rfl
  obtain ⟨i, rfl, k⟩ := h
  refine ⟨_, pss_one (ps_ret (pe_and (pe_callB call_isi (by rfl) T.isi boot_isi' (pa_cons (pv 0) (pa_cons (pe_bltn (v := .ty "int") (by rfl) T.int boot_int' rfl) pa_nil)))
      (pe_one (pe_not (pe_callB call_isi (by rfl) T.isi boot_isi' (pa_cons (pv 0) (pa_cons (pe_bltn (v := .ty "bool") (by rfl) T.bool boot_bool' rfl) pa_nil))))))), ?_⟩
  refine ⟨_, rfl, _, .ty "int", _, _, true, rfl, .ty _, .base (.int _), kit_ty k_ii, _, rfl, iteT ?_⟩
  exact ⟨_, rfl, _, .ty "bool", _, _, false, rfl, .ty _, .base (.int _), kit_ty k_ib, _, rfl, k⟩
/-! ### states -/
/-- the tuples at as are the states l -/
def TupL (H : Hp) (as : List Addr) (l : List (List Nat)) : Prop := as.length = l.length ∧ ∀ (i : Nat) (s : List Nat), l[i]? = some s → ∃ a, as[i]? = some a ∧ H a = some (.tup (vI s))
theorem TupL.kp {ex : List Addr} {H H' : Hp} {as : List Addr} {l : List (List Nat)} (h : TupL H as l) (k : Kp ex H H') : TupL H' as l :=
  ⟨h.1, fun i s e => let ⟨a, h1, h2⟩ := h.2 i s e; ⟨a, h1, k.tup _ _ h2⟩⟩
theorem TupL.app {H : Hp} {as bs : List Addr} {l m : List (List Nat)} (h : TupL H as l) (g : TupL H bs m) : TupL H (as ++ bs) (l ++ m) := by
  refine ⟨by rw [List.length_append, List.length_append, h.1, g.1], fun i s e => ?_⟩
  by_cases hi : i < l.length
  · rw [List.getElem?_append_left hi] at e
    obtain ⟨a, h1, h2⟩ := h.2 i s e
    exact ⟨a, by rw [List.getElem?_append_left (by rw [h.1]; exact hi)]; exact h1, h2⟩
  · rw [List.getElem?_append_right (by omega)] at e
    obtain ⟨a, h1, h2⟩ := g.2 _ s e
    exact ⟨a, by rw [List.getElem?_append_right (by rw [h.1]; omega), h.1]; exact h1, h2⟩
theorem TupL.one {H : Hp} {a : Addr} {s : List Nat} (h : H a = some (.tup (vI s))) : TupL H [a] [s] := by
  refine ⟨rfl, fun i s' e => ?_⟩
  have hi := (List.getElem?_eq_some_iff.mp e).1
  have ei : i = 0 := by simp at hi; exact hi
  subst ei
  have e2 : s = s' := by simpa using e
  subst e2
  exact ⟨a, rfl, h⟩
theorem TupL.nil {H : Hp} : TupL H [] [] := ⟨rfl, fun i s e => by simp at e⟩
end
end Lots
end
section
set_option Elab.async false
set_option maxRecDepth 100000
set_option maxHeartbeats 4000000
set_option linter.unusedSectionVars false
namespace Lots
open PySem PySem.Spec PyProof.Rows L2
variable [TabP]
section
variable {P : Program} {w : World} {K : PySem.W.Frag} {mg : Str → Option Value} {base : Heap}
def StsAt (H : Hp) (D : Addr) (l : List (List Nat)) : Prop := ∃ as : List Addr, H D = some (.lst (as.map V.ref)) ∧ TupL H as l
theorem StsAt.kp {ex : List Addr} {H H' : Hp} {D : Addr} {l : List (List Nat)} (h : StsAt H D l) (k : Kp ex H H') (n : D ∉ ex) : StsAt H' D l := let ⟨as, h1, h2⟩ := h; ⟨as, k.lst h1 n, h2.kp k⟩
theorem StsAt.at {H : Hp} {D : Addr} {l : List (List Nat)} (h : StsAt H D l) {i : Nat} {s : List Nat} (e : l[i]? = some s) : ∃ (as : List Addr) (a : Addr), H D = some (.lst (as.map V.ref)) ∧ (as.map V.ref)[i]? = some (V.ref a) ∧ H a = some (.tup (vI s)) ∧ as.length = l.length := by
  obtain ⟨as, h1, h2⟩ := h
  obtain ⟨a, e1, e2⟩ := h2.2 i s e
  exact ⟨as, a, h1, by rw [List.getElem?_map, e1]; rfl, e2, h2.1⟩
def spStates : Sp := fun vs H Q _ => ∃ (b : Addr) (bs : Bxs), vs = [.ref b] ∧ BoxAt H b bs ∧ bs.length ≤ 9 ∧ (∀ z ∈ bs.map (·.2), 1 ≤ z) ∧ prod (bs.map (·.2)) ≤ 1000 ∧ ∀ (D : Addr) (H' : Hp), H D = none → StsAt H' D (sts (bs.map (·.2))) → Kp [] H H' → Q (.ref D) H'
abbrev nSt : List Str := ["_law_boxes_here", "_law_states_here", "_law_box", "_law_longer", "_law_state_here", "_law_number"]
theorem scStates : FnScope nSt ["_law_boxes_here"] (defScope sStates) := ⟨rfl, rfl, rfl, by decide +kernel, rfl, by decide +kernel, by decide +kernel⟩
theorem prod_take_le {l : List Nat} (h : ∀ z ∈ l, 1 ≤ z) (i : Nat) : prod (l.take i) ≤ prod l := by
  have e : prod l = prod (l.take i) * prod (l.drop i) := by rw [← prod_append, List.take_append_drop]
  rw [e]
  exact Nat.le_mul_of_pos_right _ (prod_pos fun z hz => h z (List.mem_of_mem_drop hz))
theorem ok_states (T : Tx K mg) : FnOk P w K mg base CX0 1 T.states.f T.states.fd ["_law_boxes_here"] spStates := by
  refine T.states.F.ok scStates (fun vs H Q E h => ?_) (fun cdv A outer s0 H vs Q E hr h => ?_)
  · obtain ⟨b, bs, rfl, _⟩ := h
    rfl
  obtain ⟨b, bs, rfl, ⟨as, b1, b2, b3⟩, hbs, hpos, hpr, k⟩ := h
  refine ⟨_, pss_cons (ps_set (i := 1) scStates.nd rfl (Or.inl rfl) (pe_lst (pa_cons (pe_tup pa_nil) pa_nil)))
    (pss_cons (ps_for PassesOwn.never rfl (pi_tup (pv 0)) (pg_name (i := 2) scStates.nd rfl (Or.inl rfl))
      (pss_cons (ps_set (i := 3) scStates.nd rfl (Or.inl rfl) (pe_lst pa_nil))
      (pss_cons (ps_for PassesOwn.never rfl (pi_list (pv 1)) (pg_name (i := 4) scStates.nd rfl (Or.inr rfl))
        (pss_one (ps_expr (pe_bm PySem.F.plainAttrs_list PySem.F.slot_list_extend PySem.F.type_list_extend mt_extend (pv 3) (pa_cons
          (pe_lc (own := [("_law_number", 5)]) (g := gName 5) (tt := tYes) rfl scStates.nd (pi_range1 (by rfl) T.range (pa_cons (pe_ix ix_tup (pv 2) pe_int (fun _ _ => rfl)) pa_nil))
            (blkOk_by (N := nSt) (sc := defScope sStates) (by decide +kernel)) (fun _ _ _ _ _ => pg_name (i := 5) scStates.nd rfl (Or.inl rfl)) (fun _ _ _ _ _ => pts_nil)
            (fun _ _ _ _ _ => pe_op op_catU (pv 4) (pe_tup (pa_cons (pv 5) pa_nil)))) pa_nil)))))
      (pss_one (ps_set (i := 1) scStates.nd rfl (Or.inl rfl) (pv 3))))))
    (pss_one (ps_ret (pv 1)))), ?_⟩
  refine ⟨(by show 0 ≤ sizeLine; decide), fun t0 ht0 => ⟨(by show 1 ≤ sizeLine; decide), fun S0 hS0 => ?_⟩⟩
  have k0 : Kp [] H (upd (upd H t0 (.tup [])) S0 (.lst [.ref t0])) := (Kp.new ht0 _).trans (Kp.new hS0 _)
  have hS00 : H S0 = none := (Kp.new (ex := []) ht0 (.tup [])).fr _ hS0
  refine ⟨_, rfl, b, rfl, ⟨_, SqT.of (k0.tup _ _ b1)⟩, ?_⟩
  have hal : (as.map V.ref).length = (bs.map (·.2)).length := by rw [List.length_map, List.length_map, b2]
  refine for_tup (K := K) (xs := as.map V.ref) (fun i σ H' => ∃ (SL : Addr) (v2 v3 v4 v5 : Option V), σ = [some (.ref b), some (.ref SL), v2, v3, v4, v5] ∧ Kp [] H H' ∧ H SL = none ∧ StsAt H' SL (sts ((bs.map (·.2)).take i)))
    ⟨S0, _, _, _, _, rfl, k0, hS00, [t0], upd_same, TupL.one (by rw [upd_ne (fun z => by rw [z, upd_same] at hS0; cases hS0)]; exact upd_same)⟩ (fun i σ H' _ ⟨_, _, _, _, _, _, kp, _⟩ => SqT.of (kp.tup _ _ b1)) ?_ ?_
  · rintro i y σ H1 hi ⟨SL, v2, v3, v4, v5, rfl, kp, hSL, hSt⟩
    obtain ⟨nm, z, a, e1, rfl, e3⟩ := box_nm b3 b2 hi
    have hz : (bs.map (·.2))[i]? = some z := by rw [List.getElem?_map, e1]; rfl
    have htk : (bs.map (·.2)).take (i + 1) = (bs.map (·.2)).take i ++ [z] := by rw [List.take_add_one, hz]; rfl
    generalize hcur : sts ((bs.map (·.2)).take i) = cur at hSt
    have hcl : cur.length = prod ((bs.map (·.2)).take i) := by rw [← hcur]; exact sts_len fun y hy => hpos y (List.mem_of_mem_take hy)
    have hnl : cur.length * z ≤ 1000 := by
      have q := prod_take_le hpos (i + 1)
      rw [htk, prod_append] at q
      have q2 : prod [z] = z := Nat.mul_one z
      rw [q2, ← hcl] at q
      omega
    obtain ⟨sas, hs1, hs2⟩ := id hSt
    refine ⟨Nat.zero_le _, fun Lo hLo => ?_⟩
    have kL : Kp [] H1 (upd H1 Lo (.lst [])) := Kp.new hLo _
    have nSLo : SL ≠ Lo := ne_of_none hs1 hLo
    refine ⟨_, rfl, SL, rfl, ⟨_, SqL.of (kL.lst hs1 (by simp))⟩, ?_⟩
    refine for_list (K := K) (xs := sas.map V.ref) (fun j σ H' => ∃ (v4 : Option V), σ = [some (.ref b), some (.ref SL), some (.ref a), some (.ref Lo), v4, v5] ∧ Kp [] H1 H' ∧ StsAt H' Lo ((cur.take j).flatMap (stp z)))
      ⟨_, rfl, kL, [], upd_same, TupL.nil⟩ (fun j σ H' _ ⟨_, _, kj, _⟩ => SqL.of (kj.lst hs1 (by simp))) ?_ ?_
    · rintro j y σ H2 hj ⟨v4', rfl, kj, las, hl1, hl2⟩
      have hjl : j < cur.length := by
        have q := (List.getElem?_eq_some_iff.mp hj).1
        rw [List.length_map, hs2.1] at q
        exact q
      obtain ⟨sa, ea, ha⟩ := hs2.2 j cur[j] (List.getElem?_eq_getElem hjl)
      obtain rfl : y = V.ref sa := by
        rw [List.getElem?_map, ea] at hj
        exact (Option.some.inj hj).symm
      have e3' := kj.tup _ _ (kp.tup _ _ e3)
      have ha' := kj.tup _ _ ha
      refine ⟨_, rfl, .inl ⟨rfl, _, SqL.of hl1⟩, _, rfl, a, _, _, _, rfl, rfl, SqT.of e3', at1, (z : Int), rfl, ?_, ?_, fun D hD => ?_⟩
      · omega
      · have : 1 * z ≤ cur.length * z := Nat.mul_le_mul_right z (by omega)
        omega
      refine lc_range (lo := 0) (n := z) (fun i H' => Kp [] H2 H' ∧ StsAt H' D ((List.range i).map fun k => cur[j] ++ [k])) ⟨Kp.new hD _, [], upd_same, TupL.nil⟩ ?_ ?_
      · rintro n H3 hn ⟨k3, das, hd1, hd2⟩
        have en : (0 : Int) + (n : Nat) = (n : Int) := by omega
        rw [en]
        refine ⟨rfl, tYes_of ?_⟩
        refine iteT ?_
        refine ⟨_, rfl, _, rfl, (by show 1 ≤ sizeLine; decide), fun t1 ht1 => ?_⟩
        have n1 : Kp [] H3 (upd H3 t1 (.tup [.int (n : Int)])) := Kp.new ht1 _
        refine ⟨sa, t1, _, _, rfl, rfl, n1.tup _ _ (k3.tup _ _ ha'), upd_same, ?_, fun t2 H4 k4 ht2 => ?_⟩
        · have hv := sts_valid (szs := (bs.map (·.2)).take i) (fun y hy => hpos y (List.mem_of_mem_take hy)) (i := j) (s := cur[j]) (by rw [hcur]; exact List.getElem?_eq_getElem hjl)
          have q := hv.1.1
          rw [List.length_take, List.length_map] at q
          rw [List.length_map, List.length_singleton]
          exact Nat.le_of_lt (mill (by omega))
        have k34 : Kp [] H3 H4 := n1.trans k4
        have hd4 : H4 D = some (.lst (das.map V.ref)) := k34.lst hd1 (by simp)
        have hz1000 : n < 1000 := by
          have : 1 * z ≤ cur.length * z := Nat.mul_le_mul_right z (by omega)
          omega
        refine ⟨_, hd4, ?_, (k3.trans k34).wrN hD hd4 _, das ++ [t2], by rw [upd_same, List.map_append]; rfl, ?_⟩
        · rw [List.length_map, hd2.1, List.length_map, List.length_range]
          exact mill (by omega)
        · rw [List.range_succ, List.map_append]
          have kd : Kp [D] H4 (upd H4 D (.lst (das.map V.ref ++ [.ref t2]))) := Kp.wrL hd4 (by simp) _
          refine ((hd2.kp k34).kp kd).app (TupL.one (kd.tup _ _ ?_))
          show H4 t2 = some (.tup ((cur[j] ++ [n]).map _))
          rw [ht2, List.map_append]
          rfl
      · rintro H3 ⟨k3, das, hd1, hd2⟩
        have hl3 := k3.lst hl1 (by simp)
        have hlen : (las.map V.ref).length + (das.map V.ref).length ≤ 1000 := by
          have q : ((cur.take j).flatMap (stp z)).length = (cur.take j).length * z := flat_len (stp_len z) _
          have q2 : (j + 1) * z ≤ cur.length * z := Nat.mul_le_mul_right z hjl
          have q3 : (j + 1) * z = j * z + z := Nat.succ_mul j z
          rw [List.length_map, List.length_map, hl2.1, hd2.1, q, List.length_map, List.length_range, List.length_take, Nat.min_eq_left (Nat.le_of_lt hjl)]
          omega
        refine ⟨Lo, D, _, _, rfl, rfl, hl3, hd1, Nat.le_of_lt (mill (by omega)), ?_⟩
        refine ⟨_, rfl, ?_, las ++ das, by rw [upd_same, List.map_append], ?_⟩
        · exact (kj.trans k3).wrN hLo hl3 _
        · have kd : Kp [Lo] H3 (upd H3 Lo (.lst (las.map V.ref ++ das.map V.ref))) := Kp.wrL hl3 (by simp) _
          have e : (cur.take (j + 1)).flatMap (stp z) = (cur.take j).flatMap (stp z) ++ stp z cur[j] := by
            rw [List.take_add_one, List.getElem?_eq_getElem hjl, List.flatMap_append]
            show _ ++ List.flatMap (stp z) [cur[j]] = _
            rw [List.flatMap_cons, List.flatMap_nil, List.append_nil]
          rw [e]
          exact ((hl2.kp k3).kp kd).app (hd2.kp kd)
    · rintro σ H2 ⟨v4', rfl, kj, las, hl1, hl2⟩
      refine ⟨_, rfl, Lo, _, _, _, _, rfl, kp.trans kj, kp.fr _ hLo, las, hl1, ?_⟩
      have e : cur.take (sas.map V.ref).length = cur := List.take_of_length_le (by rw [List.length_map, hs2.1]; exact Nat.le_refl _)
      rw [htk, sts_snoc, hcur]
      rw [e] at hl2
      exact hl2
  · rintro σ H1 ⟨SL, v2, v3, v4, v5, rfl, kp, hSL, hSt⟩
    have e : (bs.map (·.2)).take (as.map V.ref).length = bs.map (·.2) := List.take_of_length_le (by rw [hal]; exact Nat.le_refl _)
    rw [e] at hSt
    exact ⟨_, rfl, k SL H1 hSL hSt kp⟩
end
end Lots
end
section
set_option Elab.async false
set_option maxRecDepth 100000
set_option maxHeartbeats 4000000
set_option linter.unusedSectionVars false
namespace Lots
open PySem PySem.Spec PyProof.Rows L2
variable [TabP]
section
variable {P : Program} {w : World} {K : PySem.W.Frag} {mg : Str → Option Value} {base : Heap}
/-! ### table -/
/-- the fractions at ts are vals -/
def FrL (H : Hp) (ts : List Addr) (vals : List Frac) : Prop := ts.length = vals.length ∧ ∀ (i : Nat) (v : Frac), vals[i]? = some v → ∃ t, ts[i]? = some t ∧ FrAt H t v
theorem FrL.kp {ex : List Addr} {H H' : Hp} {ts : List Addr} {l : List Frac} (h : FrL H ts l) (k : Kp ex H H') : FrL H' ts l :=
  ⟨h.1, fun i s e => let ⟨a, h1, h2⟩ := h.2 i s e; ⟨a, h1, h2.kp k⟩⟩
theorem FrL.snoc {H : Hp} {ts : List Addr} {l : List Frac} {t : Addr} {v : Frac} (h : FrL H ts l) (g : FrAt H t v) : FrL H (ts ++ [t]) (l ++ [v]) := by
  refine ⟨by rw [List.length_append, List.length_append, h.1]; rfl, fun i s e => ?_⟩
  by_cases hi : i < l.length
  · rw [List.getElem?_append_left hi] at e
    obtain ⟨a, h1, h2⟩ := h.2 i s e
    exact ⟨a, by rw [List.getElem?_append_left (by rw [h.1]; exact hi)]; exact h1, h2⟩
  · have ei : i = l.length := by
      have z := (List.getElem?_eq_some_iff.mp e).1
      rw [List.length_append, List.length_singleton] at z
      omega
    subst ei
    rw [List.getElem?_append_right (Nat.le_refl _), Nat.sub_self] at e
    have e2 : v = s := by simpa using e
    subst e2
    exact ⟨t, by rw [List.getElem?_append_right (by rw [h.1]; exact Nat.le_refl _), h.1, Nat.sub_self]; rfl, g⟩
theorem FrL.nil {H : Hp} : FrL H [] [] := ⟨rfl, fun i s e => by simp at e⟩
def TblAt (H : Hp) (D : Addr) (vals : List Frac) : Prop := ∃ ts : List Addr, H D = some (.lst (ts.map V.ref)) ∧ FrL H ts vals
theorem TblAt.kp {ex : List Addr} {H H' : Hp} {D : Addr} {l : List Frac} (h : TblAt H D l) (k : Kp ex H H') (n : D ∉ ex) : TblAt H' D l := let ⟨as, h1, h2⟩ := h; ⟨as, k.lst h1 n, h2.kp k⟩
def spTable : Sp := fun vs H Q _ => ∃ (L b : Addr) (bs : Bxs), vs = [.ref L, .ref b] ∧ LeftAt H L ∧ BoxAt H b bs ∧ bs.length ≤ 9 ∧ (∀ z ∈ bs.map (·.2), 1 ≤ z) ∧ prod (bs.map (·.2)) ≤ 1000 ∧
  ∀ (D : Addr) (vals : List Frac) (H' : Hp), H D = none → TblAt H' D vals → vals.length = prod (bs.map (·.2)) → LeftAt H' L → Kp [L] H H' → Q (.ref D) H'
abbrev nT : List Str := ["_law_left", "_law_boxes_here", "_law_k", "_law_some", "_law_hold", "_law_one", "_law_two", "_law_three", "_law_table_here", "_law_state_here", "_law_spot", "_law_mixed"]
theorem scTable : FnScope nT ["_law_left", "_law_boxes_here"] (defScope sTable) := ⟨rfl, rfl, rfl, by decide +kernel, rfl, by decide +kernel, by decide +kernel⟩
theorem spot_fit {p q x a z : Nat} (h : x + 1 ≤ p) (ha : a < z) (e : q = p * z) : x * z + a + 1 ≤ q := by
  have h1 := Nat.mul_le_mul_right z h
  rw [Nat.succ_mul] at h1
  omega
theorem ok_table (T : Tx K mg) : FnOk P w K mg base CX0 3 T.table.f T.table.fd ["_law_left", "_law_boxes_here"] spTable := by
  refine T.table.F.ok scTable (fun vs H Q E h => ?_) (fun cdv A outer s0 H vs Q E hr h => ?_)
  · obtain ⟨L, b, bs, rfl, _⟩ := h
    rfl
  obtain ⟨L, b, bs, rfl, hL, B, hbs, hpos, hpr, k⟩ := h
  have GT := ok_take (P := P) (w := w) (base := base) T
  have GR := ok_ratio (P := P) (w := w) (base := base) T
  have GS := ok_states (P := P) (w := w) (base := base) T
  have hr1 : Room 1 _ := hr.mono (by decide)
  refine ⟨_, pss_cons (ps_setLc (i := 3) (own := [("_law_k", 2)]) (g := gName 2) (tt := tYes) rfl scTable.nd rfl rfl (sw_true rfl rfl rfl (by decide +kernel)) (pi_range1 (by rfl) T.range (pa_cons (pe_op op_add pe_int (pe_call GT hr1 rfl T.take.m T.take.F.kp T.take.b .nil pass0 (pa_cons (pv 0) (pa_cons pe_int pa_nil)))) pa_nil))
      (blkOk_by (N := nT) (sc := defScope sTable) (by decide +kernel)) (fun _ _ _ _ _ => pg_name (i := 2) scTable.nd rfl (Or.inl rfl)) (fun _ _ _ _ _ => pts_nil) (fun _ _ _ _ _ => pe_call GR hr rfl T.ratio.m T.ratio.F.kp T.ratio.b .nil pass0 (pa_cons (pv 0) pa_nil)))
    (pss_cons (ps_set (i := 4) scTable.nd rfl (Or.inl rfl) (pe_call GT hr1 rfl T.take.m T.take.F.kp T.take.b .nil pass0 (pa_cons (pv 0) (pa_cons (pe_op op_add (pe_callB call_len_seq (by rfl) T.len PySem.boot_len (pa_cons (pv 1) pa_nil)) pe_int) pa_nil))))
    (pss_cons (ps_set (i := 5) scTable.nd rfl (Or.inl rfl) (pe_call GT hr1 rfl T.take.m T.take.F.kp T.take.b .nil pass0 (pa_cons (pv 0) (pa_cons pe_int pa_nil))))
    (pss_cons (ps_set (i := 6) scTable.nd rfl (Or.inl rfl) (pe_call GT hr1 rfl T.take.m T.take.F.kp T.take.b .nil pass0 (pa_cons (pv 0) (pa_cons pe_int pa_nil))))
    (pss_cons (ps_set (i := 7) scTable.nd rfl (Or.inl rfl) (pe_call GT hr1 rfl T.take.m T.take.F.kp T.take.b .nil pass0 (pa_cons (pv 0) (pa_cons pe_int pa_nil))))
    (pss_cons (ps_set (i := 8) scTable.nd rfl (Or.inl rfl) (pe_lst pa_nil))
    (pss_cons (ps_for PassesOwn.never rfl (pi_list (pe_call GS hr1 rfl T.states.m T.states.F.kp T.states.b .nil pass0 (pa_cons (pv 1) pa_nil))) (pg_name (i := 9) scTable.nd rfl (Or.inl rfl))
      (pss_cons (ps_set (i := 10) scTable.nd rfl (Or.inl rfl) pe_int)
      (pss_cons (ps_for PassesOwn.never rfl (pi_range1 (by rfl) T.range (pa_cons (pe_callB call_len_seq (by rfl) T.len PySem.boot_len (pa_cons (pv 1) pa_nil)) pa_nil)) (pg_name (i := 2) scTable.nd rfl (Or.inl rfl))
        (pss_one (ps_if (pt_cmpR op_ne (pv 2) (pv 4) (nomark _)) (pss_one (ps_set (i := 10) scTable.nd rfl (Or.inl rfl) (pe_op op_add (pe_op op_mul (pv 10) (pe_ix ix_tup (pe_ix ix_tup (pv 1) (pv 2) (fun _ _ => rfl)) pe_int (fun _ _ => rfl))) (pe_ix ix_tup (pv 9) (pv 2) (fun _ _ => rfl))))) pss_nil)))
      (pss_cons (ps_set (i := 11) scTable.nd rfl (Or.inl rfl) (pe_op op_mod (pe_op op_add (pe_op op_add (pe_op op_mul (pe_op op_mul (pv 5) (pv 10)) (pv 10)) (pe_op op_mul (pv 6) (pv 10))) (pv 7)) pe_int))
      (pss_one (ps_expr (pe_bm PySem.F.plainAttrs_list PySem.F.slot_list_append PySem.F.type_list_append mt_append (pv 8) (pa_cons (pe_ix ix_list (pv 3) (pe_op op_mod (pv 11) (pe_callB call_len_seq (by rfl) T.len PySem.boot_len (pa_cons (pv 3) pa_nil))) (fun _ _ => rfl)) pa_nil))))))))
    (pss_one (ps_ret (pv 8))))))))), ?_⟩
  refine ⟨_, rfl, L, 3, rfl, hL, by decide, fun v1 H1 v10 v11 hL1 k1 => ⟨_, _, rfl, rfl, ?_⟩⟩
  obtain ⟨m, hm⟩ := Int.eq_ofNat_of_zero_le (by omega : 0 ≤ 2 + v1)
  refine ⟨2 + v1, rfl, by omega, by omega, ?_⟩
  rw [hm]
  intro Sm hSm
  have hSmL : Sm ∉ [L] := fun z => hL1.ne hSm (List.mem_singleton.mp z)
  refine lc_range (lo := 0) (n := m) (fun i H' => Kp [L] H1 H' ∧ LeftAt H' L ∧ ∃ vals, TblAt H' Sm vals ∧ vals.length = i) ⟨Kp.new hSm _, hL1.kp (Kp.new (ex := []) hSm _) (by simp), [], ⟨[], upd_same, FrL.nil⟩, rfl⟩ ?_ ?_
  · rintro i H2 hi ⟨k2, hL2, vals, ⟨ts, h1, h2⟩, hvl⟩
    refine ⟨rfl, tYes_of ?_⟩
    refine iteT ?_
    refine ⟨_, rfl, L, rfl, hL2, fun r v H3 hv hL3 k3 => ?_⟩
    have h13 : H3 Sm = some (.lst (ts.map V.ref)) := k3.lst h1 hSmL
    have kd : Kp [Sm] H3 (upd H3 Sm (.lst (ts.map V.ref ++ [.ref r]))) := Kp.wrL h13 (by simp) _
    refine ⟨_, h13, by rw [List.length_map, h2.1, hvl]; exact mill (by omega), (k2.trans k3).wrN hSm h13 _, hL3.kp kd (fun z => hSmL (by rw [List.mem_singleton.mp z]; exact List.mem_singleton.mpr rfl)), vals ++ [v], ⟨ts ++ [r], by rw [upd_same, List.map_append]; rfl, ((h2.kp k3).kp kd).snoc (hv.kp kd)⟩, by rw [List.length_append, hvl]; rfl⟩
  rintro H2 ⟨k2, hL2, svals, hS, hsl⟩
  have hszl : (bs.map (·.2)).length = bs.length := List.length_map _
  obtain ⟨as, b1, b2, b3⟩ := id B
  have hal : (as.map V.ref).length = bs.length := by rw [List.length_map, b2]
  have k12 := k1.trans k2
  refine ⟨_, rfl, _, rfl, b, _, rfl, .inr (SqT.of (k12.tup _ _ b1)), _, _, rfl, rfl, L, _, rfl, hL2, by omega, fun hold H3 hold0 hold1 hL3 k3 => ?_⟩
  refine ⟨_, rfl, L, 1009, rfl, hL3, by decide, fun one H4 o0 o1 hL4 k4 => ?_⟩
  refine ⟨_, rfl, L, 1009, rfl, hL4, by decide, fun two H5 w0 w1 hL5 k5 => ?_⟩
  refine ⟨_, rfl, L, 1009, rfl, hL5, by decide, fun three H6 r0 r1 hL6 k6 => ?_⟩
  have k26 : Kp [L] H2 H6 := k3.trans (k4.trans (k5.trans k6))
  have hS6 := hS.kp k26 hSmL
  have k06 := k12.trans k26
  refine ⟨Nat.zero_le _, fun D hD => ?_⟩
  have kD : Kp [] H6 (upd H6 D (.lst [])) := Kp.new hD _
  have hL7 := hL6.kp kD (by simp)
  have hS7 := hS6.kp kD (by simp)
  refine ⟨_, rfl, b, bs, rfl, B.kp (k06.trans (Kp.of0 kD)), hbs, hpos, hpr, fun SD H8 hSD0 hSD k8 => ?_⟩
  have hS8 := hS7.kp k8 (by simp)
  have hL8 := hL7.kp k8 (by simp)
  have kD8 : Kp [] H6 H8 := kD.trans k8
  have hD8 : H8 D = some (.lst []) := k8.lst upd_same (by simp)
  obtain ⟨sas, hs1, hs2⟩ := hSD
  have hDSD : D ≠ SD := fun z => by rw [← z, upd_same] at hSD0; cases hSD0
  obtain ⟨sts1, hS1, hS2⟩ := hS8
  have hDSm : Sm ≠ D := fun z => by
    obtain ⟨q, q1, _⟩ := hS6
    rw [z, hD] at q1
    cases q1
  refine ⟨SD, rfl, ⟨_, SqL.of hs1⟩, ?_⟩
  have B8 := B.kp (k06.trans (Kp.of0 kD8))
  obtain ⟨as8, c1, c2, c3⟩ := B8
  refine for_list (K := K) (a := SD) (xs := sas.map V.ref) (fun i σ H' => ∃ (v2 v9 v10 v11 : Option V) (vals : List Frac), σ = [some (.ref L), some (.ref b), v2, some (.ref Sm), some (.int hold), some (.int one), some (.int two), some (.int three), some (.ref D), v9, v10, v11] ∧
      Kp [D] H8 H' ∧ TblAt H' D vals ∧ vals.length = i)
    ⟨none, none, none, none, [], rfl, Kp.refl _ _, ⟨[], hD8, FrL.nil⟩, rfl⟩ (fun i σ H' _ ⟨_, _, _, _, _, _, kp, _⟩ => SqL.of (kp.lst hs1 (fun z => hDSD (List.mem_singleton.mp z).symm))) ?_ ?_
  · rintro i y σ H9 hi ⟨v2, v9, v10', v11', vals, rfl, k9, hT9, hvl⟩
    have hil : i < (sts (bs.map (·.2))).length := by
      have q := (List.getElem?_eq_some_iff.mp hi).1
      rw [List.length_map, hs2.1] at q
      exact q
    obtain ⟨sa, ea, ha⟩ := hs2.2 i _ (List.getElem?_eq_getElem hil)
    obtain rfl : y = V.ref sa := by
      rw [List.getElem?_map, ea] at hi
      exact (Option.some.inj hi).symm
    have hval := (sts_valid hpos (List.getElem?_eq_getElem hil)).1
    generalize (sts (bs.map (·.2)))[i] = s at ha hval
    have hi1000 : i < 1000 := by rw [sts_len hpos] at hil; omega
    have ha9 := k9.tup _ _ ha
    have c19 := k9.tup _ _ c1
    have hcl : (as8.map V.ref).length = bs.length := by rw [List.length_map, c2]
    refine ⟨_, rfl, b, _, rfl, .inr (SqT.of c19), _, rfl, by omega, by omega, ?_⟩
    rw [hcl]
    refine for_range (lo := 0) (n := bs.length) (fun j σ H' => H' = H9 ∧ ∃ (v2 v11 : Option V) (x : Nat), σ = [some (.ref L), some (.ref b), v2, some (.ref Sm), some (.int hold), some (.int one), some (.int two), some (.int three), some (.ref D), some (.ref sa), some (.int (x : Int)), v11] ∧ x + 1 ≤ prod ((bs.map (·.2)).take j))
      ⟨rfl, _, _, 0, rfl, Nat.le_refl _⟩ ?_ ?_
    · rintro j σ H' hj ⟨rfl, v2, v11', x, rfl, hx⟩
      have ej : (0 : Int) + (j : Nat) = (j : Int) := by omega
      rw [ej]
      have hz : (bs.map (·.2))[j]? = some bs[j].2 := by rw [List.getElem?_map, List.getElem?_eq_getElem hj]; rfl
      obtain ⟨ba, d1, d2⟩ := c3 j bs[j].1 bs[j].2 (List.getElem?_eq_getElem hj)
      have htk : prod ((bs.map (·.2)).take (j + 1)) = prod ((bs.map (·.2)).take j) * bs[j].2 := by
        rw [List.take_add_one, hz]
        exact snoc_prod _ _
      generalize bs[j].2 = z at hz d2 htk
      have hz1 := hpos z (List.mem_of_getElem? hz)
      have hzp := Nat.le_trans (le_prod hpos (List.mem_of_getElem? hz)) hpr
      obtain ⟨sj, hsj, hsz⟩ := hval.at hz
      refine ⟨_, rfl, _, rfl, rfl, _, rfl, ?_⟩
      refine ite2 (fun _ => ?_) (fun _ => ?_)
      · refine ⟨_, rfl, _, rfl, _, rfl, b, _, _, _, rfl, rfl, SqT.of c19, atI_nat (by rw [List.getElem?_map, d1]; rfl), ba, _, _, _, rfl, rfl, SqT.of (k9.tup _ _ d2), at1, _, _, rfl, rfl, .inr ⟨by omega, by omega⟩, _, rfl, _, rfl, sa, _, _, _, rfl, rfl, SqT.of ha9, atI_nat (vI_at hsj), _, _, rfl, rfl, ?_⟩
        refine ⟨rfl, some (.int (j : Int)), v11', x * z + sj, ?_, spot_fit hx hsz htk⟩
        show [_, _, _, _, _, _, _, _, _, _, some (V.int ((x : Int) * (z : Int) + (sj : Int))), _] = _
        rw [← Int.natCast_mul, ← Int.natCast_add]
      · refine ⟨rfl, some (.int (j : Int)), v11', x, rfl, ?_⟩
        rw [htk]
        exact Nat.le_trans hx (Nat.le_mul_of_pos_right _ hz1)
    · rintro σ H' ⟨rfl, v2, v11', x, rfl, hx⟩
      have hx1000 : x < 1000 := by
        have q := prod_take_le hpos bs.length
        omega
      have k8H := k9
      have hsm : SqL K H' Sm (sts1.map V.ref) := SqL.of (k9.lst hS1 (fun z => hDSm (List.mem_singleton.mp z)))
      have hlen : (sts1.map V.ref).length = m := by rw [List.length_map, hS2.1, hsl]
      refine ⟨_, rfl, _, rfl, _, _, rfl, rfl, .inl ⟨by omega, by omega⟩, _, rfl, _, _, rfl, rfl, .inr ⟨by omega, by omega⟩, _, rfl, _, rfl, _, _, rfl, rfl, .inl ⟨by omega, by omega⟩, _, _, rfl, rfl, _, rfl, _, _, rfl, rfl, _, _, rfl, rfl, (by show (0 : Int) < 1009; decide), ?_⟩
      obtain ⟨ts, t1, t2⟩ := hT9
      refine ⟨_, rfl, .inl ⟨rfl, _, SqL.of t1⟩, _, rfl, _, rfl, _, rfl, Sm, _, rfl, .inl hsm, _, _, rfl, rfl, by rw [hlen]; omega, ?_⟩
      rw [hlen]
      obtain ⟨j, hj⟩ := Int.eq_ofNat_of_zero_le (Int.emod_nonneg ((one * (x : Int) * (x : Int) + two * (x : Int) + three) % 1009) (by omega : (m : Int) ≠ 0))
      have hjm : j < m := by
        have q := Int.emod_lt_of_pos ((one * (x : Int) * (x : Int) + two * (x : Int) + three) % 1009) (by omega : (0 : Int) < (m : Int))
        omega
      have hjs : j < svals.length := by omega
      obtain ⟨t, e1, e2⟩ := hS2.2 j svals[j] (List.getElem?_eq_getElem hjs)
      refine ⟨Sm, _, _, _, rfl, rfl, hsm, at_of hj (by rw [List.getElem?_map, e1]; rfl), D, _, _, rfl, rfl, t1, by rw [List.length_map, t2.1, hvl]; exact mill (by omega), ?_⟩
      have kd : Kp [D] H' (upd H' D (.lst (ts.map V.ref ++ [.ref t]))) := Kp.wrL t1 (by simp) _
      exact ⟨_, _, _, _, vals ++ [svals[j]], rfl, k9.trans kd, ⟨ts ++ [t], by rw [upd_same, List.map_append]; rfl, (t2.kp kd).snoc ((e2.kp k9).kp kd)⟩, by rw [List.length_append, hvl]; rfl⟩
  · rintro σ H9 ⟨v2, v9, v10', v11', vals, rfl, k9, hT9, hvl⟩
    have hDL : D ∉ [L] := fun z => hL6.ne hD (List.mem_singleton.mp z)
    have kF : Kp [L] H H9 := by
      refine k06.trans ⟨fun c o q n t => ?_, fun c xs q => k9.tup _ _ (kD8.tup _ _ q), fun c C dx fs q => k9.ins _ _ _ _ (kD8.ins _ _ _ _ q), fun c q => kD8.fr _ (k9.fr _ q), fun q => k9.tabs (kD8.tabs q)⟩
      exact k9.keep _ _ (kD8.keep _ _ q (by simp) t) (fun z => ne_of_none q hD (List.mem_singleton.mp z)) t
    refine ⟨_, rfl, k D vals H9 (k06.fr _ hD) hT9 ?_ (hL8.kp k9 (fun z => hDL (by rw [List.mem_singleton.mp z]; exact List.mem_singleton.mpr rfl))) kF⟩
    rw [hvl, List.length_map, hs2.1, sts_len hpos]
end
end Lots
end
section
set_option Elab.async false
set_option maxRecDepth 100000
set_option maxHeartbeats 4000000
set_option linter.unusedSectionVars false
namespace Lots
open PySem PySem.Spec PyProof.Rows L2
variable [TabP]
section
variable {P : Program} {w : World} {K : PySem.W.Frag} {mg : Str → Option Value} {base : Heap}
/-! ### node -/
theorem slL {X : Cx} (K : PySem.W.Frag) (h : X.K = K) : SlR X (rSlL K) := h ▸ sl_list
theorem cut_mid {xs : List V} {a c : Nat} (h : a + c ≤ xs.length) : cutV xs (some (a : Int)) (some ((a + c : Nat) : Int)) = (xs.drop a).take c := by
  unfold cutV
  have e1 : min a xs.length = a := by omega
  have e2 : min (a + c) xs.length = a + c := by omega
  rw [HT.sIx_nat, HT.sIx_nat, e1, e2, Nat.add_sub_cancel_left]
theorem FrL.cut {H : Hp} {ts : List Addr} {l : List Frac} (h : FrL H ts l) (a c : Nat) : FrL H ((ts.drop a).take c) ((l.drop a).take c) := by
  refine ⟨by rw [List.length_take, List.length_take, List.length_drop, List.length_drop, h.1], fun i v e => ?_⟩
  by_cases hi : i < c
  · rw [List.getElem?_take_of_lt hi, List.getElem?_drop] at e
    obtain ⟨t, h1, h2⟩ := h.2 _ v e
    exact ⟨t, by rw [List.getElem?_take_of_lt hi, List.getElem?_drop]; exact h1, h2⟩
  · rw [List.getElem?_eq_none (by rw [List.length_take]; omega)] at e
    cases e
theorem getD_cut {l : List Frac} {a c j : Nat} (hj : j < c) (d : Frac) : ((l.drop a).take c).getD j d = l.getD (a + j) d := by
  rw [List.getD_eq_getElem?_getD, List.getD_eq_getElem?_getD, List.getElem?_take_of_lt hj, List.getElem?_drop]
def spNode (P : Program) (w : World) (C : Addr) (m : Nat) : Sp := fun vs H Q _ => ∃ (e : En) (l : Nat) (D : Addr) (vals : List Frac) (st : Sto), vs = [.ref e.p, .ref e.b, .int (l : Int), .ref D] ∧ SAt P w C e H st ∧ TblAt H D vals ∧ D ∉ e.ex ∧
  l ≤ e.szs.length ∧ vals.length = prod (e.szs.drop l) ∧ e.szs.length + 1 ≤ l + m ∧ prod e.szs ≤ 1000 ∧ e.szs.length ≤ 9 ∧ st.length + cst (e.szs.drop l) < 1000000 ∧
  ∀ (st' : Sto) (n : Nat) (H' : Hp), Ext st st' → st'.length ≤ st.length + cst (e.szs.drop l) → Nd e.szs st' l n (fun s => vals.getD (idx 0 (e.szs.drop l) (s.drop l)) (0, 1)) → SAt P w C e H' st' → Kp e.ex H H' → Q (.int (n : Int)) H'
abbrev nNo : List Str := ["_law_store", "_law_boxes_here", "_law_level", "_law_table_here", "_law_size", "_law_part", "_law_kids", "_law_k"]
theorem scNode : FnScope nNo ["_law_store", "_law_boxes_here", "_law_level", "_law_table_here"] (defScope sNode) := ⟨rfl, rfl, rfl, by decide +kernel, rfl, by decide +kernel, by decide +kernel⟩
theorem ok_node (T : Tx K mg) : ∀ m : Nat, FnOk P w K mg base CX0 (m + 3) T.node.f T.node.fd ["_law_store", "_law_boxes_here", "_law_level", "_law_table_here"] (spNode P w T.C m)
  | 0 => by
    have no : ∀ vs H Q E, ¬ spNode P w T.C 0 vs H Q E := fun vs H Q E h => by
      obtain ⟨e, l, D, vals, st, _, _, _, _, h1, _, h2, _⟩ := h
      omega
    exact ⟨fun vs H Q E h => absurd h (no vs H Q E), fun A outer s H args us vs Q E _ _ _ _ h => absurd h (no vs H Q E)⟩
  | m + 1 => by
    have ih := ok_node T m
    refine T.node.F.ok scNode (fun vs H Q E h => ?_) (fun cdv A outer s H vs Q E hr h => ?_)
    · obtain ⟨e, l, D, vals, st, rfl, _⟩ := h
      rfl
    obtain ⟨e, l, D, vals, st, rfl, S, hT, hDx, hl, hvl, hf, hpr, h9, hlen, k⟩ := h
    have GL := ok_leaf (P := P) (w := w) (base := base) T
    have GF := ok_fork (P := P) (w := w) (base := base) T
    refine ⟨_, pss_cons (ps_if (pt_cmpR op_eq (pv 2) (pe_callB call_len_seq (by rfl) T.len PySem.boot_len (pa_cons (pv 1) pa_nil)) (nomark _)) (pss_one (ps_ret (pe_meth (pv 0) T.cl T.leaf.m GL (hr.mono (by omega)) T.leaf.b .nil pass0 (pa_cons (pe_ix ix_list (pv 3) pe_int (fun _ _ => rfl)) pa_nil)))) pss_nil)
      (pss_cons (ps_set (i := 4) scNode.nd rfl (Or.inl rfl) (pe_ix ix_tup (pe_ix ix_tup (pv 1) (pv 2) (fun _ _ => rfl)) pe_int (fun _ _ => rfl)))
      (pss_cons (ps_set (i := 5) scNode.nd rfl (Or.inr rfl) (pe_op op_fdiv (pe_callB call_len_seq (by rfl) T.len PySem.boot_len (pa_cons (pv 3) pa_nil)) (pv 4)))
      (pss_cons (ps_setLc (i := 6) (own := [("_law_k", 7)]) (g := gName 7) (tt := tYes) rfl scNode.nd rfl rfl (sw_true rfl rfl rfl (by decide +kernel)) (pi_range1 (by rfl) T.range (pa_cons (pv 4) pa_nil))
        (blkOk_by (N := nNo) (sc := defScope sNode) (by decide +kernel)) (fun _ _ _ _ _ => pg_name (i := 7) scNode.nd rfl (Or.inl rfl)) (fun _ _ _ _ _ => pts_nil)
        (fun _ _ _ _ _ => pe_call ih hr rfl T.node.m T.node.F.kp T.node.b .nil pass0 (pa_cons (pv 0) (pa_cons (pv 1) (pa_cons (pe_op op_add (pv 2) pe_int)
          (pa_cons (pe_slice (slL K rfl) (pv 3) (po_some (pe_op op_mul (pv 7) (pv 5))) (po_some (pe_op op_add (pe_op op_mul (pv 7) (pv 5)) (pv 5)))) pa_nil))))))
      (pss_one (ps_ret (pe_meth (pv 0) T.cl T.fork.m GF (hr.mono (by omega)) T.fork.b .nil pass0 (pa_cons (pv 2) (pa_cons (pv 6) pa_nil)))))))), ?_⟩
    obtain ⟨dx, hp⟩ := S.ob
    obtain ⟨as, b1, b2, b3⟩ := id S.bx
    obtain ⟨ts, t1, t2⟩ := id hT
    have hal : (as.map V.ref).length = e.szs.length := by rw [List.length_map, List.length_map, b2]
    refine ⟨_, rfl, _, rfl, e.b, _, rfl, .inr (SqT.of b1), rfl, _, rfl, ?_⟩
    rw [hal]
    refine ite2 (fun c => ?_) (fun c => ?_)
    · have c1 : l = e.szs.length := by
        have z := of_decide_eq_true c
        injection z with z
        omega
      have ed : e.szs.drop l = [] := List.drop_eq_nil_of_le (by omega)
      rw [ed] at hvl k
      have hv0 : vals[0]? = some (vals.getD 0 (0, 1)) := by
        rw [List.getD_eq_getElem?_getD]
        have z : (0 : Nat) < vals.length := by rw [hvl]; exact Nat.one_pos
        rw [List.getElem?_eq_getElem z]
        rfl
      obtain ⟨t, h1, h2⟩ := t2.2 0 _ hv0
      refine ⟨_, rfl, e.p, dx, _, rfl, hp, flds_leaf _ _ _, _, rfl, D, _, _, _, rfl, rfl, SqL.of t1, atI_nat (j := 0) (by rw [List.getElem?_map, h1]; rfl), ?_⟩
      refine ⟨e, t, st, _, rfl, S, h2, by omega, fun st' n H' E1 L1 N1 S1 k1 => ?_⟩
      exact k st' n H' E1 L1 ((N1.low (by omega)).congr fun s hs => by rw [List.drop_eq_nil_of_le (by rw [hs.1]; omega)]; rfl) S1 k1
    have hll : l < e.szs.length := by
      have c1 : ¬ l = e.szs.length := fun q => c (decide_eq_true (by rw [q]))
      omega
    have hz : e.szs[l]? = some e.szs[l] := List.getElem?_eq_getElem hll
    generalize e.szs[l] = z at hz
    have hz1 := S.wf.pos z (List.mem_of_getElem? hz)
    have hzp := Nat.le_trans (le_prod S.wf.pos (List.mem_of_getElem? hz)) hpr
    have hpd := prod_drop hz
    have hcd := cst_at hz
    have hpp : 1 ≤ prod (e.szs.drop (l + 1)) := prod_pos fun y hy => S.wf.pos y (List.mem_of_mem_drop hy)
    have hvle : vals.length ≤ 1000 := by
      have q : prod e.szs = prod (e.szs.take l) * prod (e.szs.drop l) := by rw [← prod_append, List.take_append_drop]
      have q1 : 1 ≤ prod (e.szs.take l) := prod_pos fun y hy => S.wf.pos y (List.mem_of_mem_take hy)
      have q2 := Nat.le_mul_of_pos_left (prod (e.szs.drop l)) q1
      omega
    generalize hpart : prod (e.szs.drop (l + 1)) = part at hpd hpp
    obtain ⟨⟨nm, z'⟩, hbx, hzz⟩ : ∃ q, e.bs[l]? = some q ∧ q.2 = z := by
      rw [List.getElem?_map] at hz
      cases q : e.bs[l]? with
      | none => rw [q] at hz; cases hz
      | some r => rw [q] at hz; exact ⟨r, rfl, Option.some.inj hz⟩
    have hzz : z' = z := hzz
    subst hzz
    obtain ⟨ba, ha1, ha2⟩ := b3 l nm z' hbx
    have htl : (ts.map V.ref).length = vals.length := by rw [List.length_map, t2.1]
    refine ⟨_, rfl, _, rfl, e.b, _, _, _, rfl, rfl, SqT.of b1, atI_nat (by rw [List.getElem?_map, ha1]; rfl), ba, _, _, _, rfl, rfl, SqT.of ha2, at1, ?_⟩
    refine ⟨_, rfl, D, _, rfl, .inl (SqL.of t1), _, rfl, _, _, rfl, rfl, ⟨by omega, by omega⟩, ?_⟩
    have epart : ((ts.map V.ref).length : Int) / (z' : Int) = (part : Int) := by
      rw [htl, hvl, hpd, ← Int.natCast_ediv, Nat.mul_div_cancel_left _ hz1]
    rw [show (fun i j : Int => V.int (i / j)) (((ts.map V.ref).length : Nat) : Int) (z' : Int) = V.int (part : Int) from congrArg V.int epart]
    refine ⟨_, rfl, _, rfl, by omega, by omega, fun D2 hD2 => ?_⟩
    refine lc_range (lo := 0) (n := z') (fun i H' => ∃ (sti : Sto) (ks : List Nat), SAt P w T.C e H' sti ∧ Ext st sti ∧ sti.length ≤ st.length + i * cst (e.szs.drop (l + 1)) ∧ Kp e.ex H H' ∧ H' D2 = some (.lst (vI ks)) ∧ ks.length = i ∧
      ∀ j y, ks[j]? = some y → Nd e.szs sti (l + 1) y (fun s => ((vals.drop (j * part)).take part).getD (idx 0 (e.szs.drop (l + 1)) (s.drop (l + 1))) (0, 1)))
      ⟨st, [], S.nw hD2 _, Ext.refl _, by omega, Kp.new hD2 _, upd_same, rfl, fun j y q => by simp at q⟩ ?_ ?_
    · rintro i H' hi ⟨sti, ks, Si, Ei, li, kp, hDi, hki, hG⟩
      have en : (0 : Int) + (i : Nat) = (i : Int) := by omega
      rw [en]
      have hmul : (i + 1) * cst (e.szs.drop (l + 1)) ≤ z' * cst (e.szs.drop (l + 1)) := Nat.mul_le_mul_right _ hi
      have hsuc : (i + 1) * cst (e.szs.drop (l + 1)) = i * cst (e.szs.drop (l + 1)) + cst (e.szs.drop (l + 1)) := Nat.succ_mul _ _
      have hmul2 : (i + 1) * part ≤ z' * part := Nat.mul_le_mul_right _ hi
      have hsuc2 : (i + 1) * part = i * part + part := Nat.succ_mul _ _
      refine ⟨rfl, tYes_of ?_⟩
      refine iteT ?_
      have hT' := kp.lst t1 hDx
      refine ⟨_, rfl, _, rfl, _, rfl, _, _, rfl, rfl, _, rfl, _, rfl, _, rfl, _, _, rfl, rfl, .inl ⟨by omega, by omega⟩, _, rfl, _, rfl, _, rfl, _, _, rfl, rfl, .inl ⟨by omega, by omega⟩, _, rfl, _, _, rfl, rfl, _, rfl, D, _, rfl, SqL.of hT', fun p hp0 => ?_⟩
      have elo : (i : Int) * (part : Int) = ((i * part : Nat) : Int) := (Int.natCast_mul _ _).symm
      have ehi : ((i * part : Nat) : Int) + (part : Int) = ((i * part + part : Nat) : Int) := (Int.natCast_add _ _).symm
      have ecut : cutV (ts.map V.ref) (some ((i : Int) * (part : Int))) (some ((i : Int) * (part : Int) + (part : Int))) = ((ts.drop (i * part)).take part).map V.ref := by
        rw [elo, ehi, cut_mid (by rw [htl]; omega), List.map_take, List.map_drop]
      rw [ecut]
      have kn : Kp e.ex H' (upd H' p (.lst (((ts.drop (i * part)).take part).map V.ref))) := Kp.new hp0 _
      refine ⟨e, l + 1, p, (vals.drop (i * part)).take part, sti, rfl, Si.nw hp0 _, ⟨_, upd_same, ((t2.cut (i * part) part).kp kp).kp kn⟩, Si.own hp0, hll, ?_, by omega, hpr, h9, by omega, fun st' n' H2 E1 L1 N1 S2 k2 => ?_⟩
      · rw [List.length_take, List.length_drop, hpart]
        omega
      have hD22 : H2 D2 = some (.lst (vI ks)) := (kn.trans k2).lst hDi (S.own hD2)
      refine ⟨_, hD22, ?_, st', ks ++ [n'], S2.wl S hD2 hD22 _, Ei.trans E1, by omega, (kp.trans (kn.trans k2)).wrN hD2 hD22 _, ?_, by rw [List.length_append, hki]; rfl, fun j' y' q => ?_⟩
      · rw [List.length_map, hki]
        exact mill (by omega)
      · rw [upd_same]
        show _ = some (HO.lst ((ks ++ [n']).map _))
        rw [List.map_append]
        rfl
      · by_cases hlt : j' < ks.length
        · rw [List.getElem?_append_left hlt] at q
          exact (hG j' y' q).ext E1
        · have ej : j' = ks.length := by
            have z2 := (List.getElem?_eq_some_iff.mp q).1
            rw [List.length_append, List.length_singleton] at z2
            omega
          subst ej
          rw [List.getElem?_append_right (Nat.le_refl _), Nat.sub_self] at q
          have eq' : n' = y' := by simpa using q
          subst eq'
          rw [hki]
          exact N1
    · rintro H' ⟨sti, ks, Si, Ei, li, kp, hDi, hki, hG⟩
      obtain ⟨dx', hp'⟩ := Si.ob
      refine ⟨_, rfl, e.p, dx', _, rfl, hp', flds_fork _ _ _, _, rfl, _, rfl, e, l, D2, ks, sti, fun j s => ((vals.drop (j * part)).take part).getD (idx 0 (e.szs.drop (l + 1)) (s.drop (l + 1))) (0, 1), rfl, Si, SqL.of hDi, by omega, by omega, by rw [hki]; exact hz, hG, fun st' n' H2 E1 L1 N1 S2 k2 => ?_⟩
      refine k st' n' H2 (Ei.trans E1) (by omega) (N1.congr fun s hs => ?_) S2 (kp.trans k2)
      obtain ⟨a, ha, haz⟩ := hs.at hz
      have eg : s.getD l 0 = a := by rw [List.getD_eq_getElem?_getD, ha]; rfl
      have hlt := idx_lt (fun y hy => S.wf.pos y (List.mem_of_mem_drop hy)) (valid_drop hs (l + 1))
      rw [hpart] at hlt
      show ((vals.drop (s.getD l 0 * part)).take part).getD _ (0, 1) = _
      rw [eg, getD_cut hlt, idx_drop hs hz ha, hpart]
end
end Lots
end
section
set_option Elab.async false
set_option maxRecDepth 100000
set_option maxHeartbeats 4000000
set_option linter.unusedSectionVars false
namespace Lots
open PySem PySem.Spec PyProof.Rows L2
variable [TabP]
section
variable {P : Program} {w : World} {K : PySem.W.Frag} {mg : Str → Option Value} {base : Heap}
/-! ### tells -/
def spTells (P : Program) (w : World) (C : Addr) : Sp := fun vs H Q _ => ∃ (e : En) (n : Nat) (D : Addr) (vals : List Frac) (st : Sto) (T' : List Nat → Frac), vs = [.ref e.p, .ref e.b, .int (n : Int), .ref D] ∧ SAt P w C e H st ∧ Nd e.szs st 0 n T' ∧ TblAt H D vals ∧
  (∀ (i : Nat) (s : List Nat), (sts e.szs)[i]? = some s → vals[i]? = some (T' s)) ∧ prod e.szs ≤ 1000 ∧ e.bs.length ≤ 9 ∧ ∀ H', Kp [] H H' → Q (.bl true) H'
abbrev nTe : List Str := ["_law_store", "_law_boxes_here", "_law_node_here", "_law_table_here", "_law_states_here", "_law_k"]
theorem scTells : FnScope nTe ["_law_store", "_law_boxes_here", "_law_node_here", "_law_table_here"] (defScope sTells) := ⟨rfl, rfl, rfl, by decide +kernel, rfl, by decide +kernel, by decide +kernel⟩
theorem flds_value_at (b l d : Addr) : (flds b l d).lookup ("value_at" : Str) = none := flds_no _ _ _ (by decide +kernel) (by decide +kernel) (by decide +kernel)
theorem all_rep : ∀ n : Nat, (List.replicate n true).all id = true
  | 0 => rfl
  | n + 1 => by rw [List.replicate_succ, List.all_cons, all_rep n]; rfl
theorem ok_tells (T : Tx K mg) : FnOk P w K mg base CX0 3 T.tells.f T.tells.fd ["_law_store", "_law_boxes_here", "_law_node_here", "_law_table_here"] (spTells P w T.C) := by
  refine T.tells.F.ok scTells (fun vs H Q E h => ?_) (fun cdv A outer s0 H vs Q E hr h => ?_)
  · obtain ⟨e, n, D, vals, st, T', rfl, _⟩ := h
    rfl
  obtain ⟨e, n, D, vals, st, T', rfl, S, N, hT, hv, hpr, h9, k⟩ := h
  have GW := ok_whole (P := P) (w := w) (base := base) T
  have GS := ok_states (P := P) (w := w) (base := base) T
  have GM := ok_same (P := P) (w := w) (base := base) T
  have GV := ok_value_at (P := P) (w := w) (base := base) T
  have hr1 : Room 1 _ := hr.mono (by decide)
  refine ⟨_, pss_cons (ps_if (pt_not (pt_val (pe_call GW hr1 rfl T.whole.m T.whole.F.kp T.whole.b .nil pass0 (pa_cons (pv 2) pa_nil)))) pss_never pss_nil)
    (pss_cons (ps_set (i := 4) scTells.nd rfl (Or.inr rfl) (pe_call GS hr1 rfl T.states.m T.states.F.kp T.states.b .nil pass0 (pa_cons (pv 1) pa_nil)))
    (pss_one (ps_ret (pe_callB (cr_all rfl) (by rfl) T.all (by decide +kernel) (pa_cons (pe_lc (own := [("_law_k", 5)]) (g := gName 5) (tt := tYes) rfl scTells.nd (pi_range1 (by rfl) T.range (pa_cons (pe_callB call_len_seq (by rfl) T.len PySem.boot_len (pa_cons (pv 4) pa_nil)) pa_nil))
        (blkOk_by (N := nTe) (sc := defScope sTells) (by decide +kernel)) (fun _ _ _ _ _ => pg_name (i := 5) scTells.nd rfl (Or.inl rfl)) (fun _ _ _ _ _ => pts_nil)
        (fun _ _ _ _ _ => pe_call GM hr rfl T.same.m T.same.F.kp T.same.b .nil pass0 (pa_cons (pe_meth (pv 0) T.cl T.value_at.m GV hr1 T.value_at.b .nil pass0 (pa_cons (pv 2) (pa_cons (pe_ix (ixL K rfl) (pv 4) (pv 5) (fun _ _ => rfl)) pa_nil)))
          (pa_cons (pe_ix (ixL K rfl) (pv 3) (pv 5) (fun _ _ => rfl)) pa_nil)))) pa_nil))))), ?_⟩
  have hszl : e.szs.length = e.bs.length := List.length_map _
  refine ⟨_, rfl, (n : Int), rfl, _, rfl, iteF ?_⟩
  refine ⟨_, rfl, e.b, e.bs, rfl, S.bx, h9, S.wf.pos, hpr, fun SD H1 hSD0 hSD k1 => ?_⟩
  obtain ⟨sas, hs1, hs2⟩ := id hSD
  obtain ⟨ts, t1, t2⟩ := id hT
  have hstl := sts_len S.wf.pos
  have hlen : (sas.map V.ref).length = prod e.szs := by rw [List.length_map, hs2.1, hstl]
  refine ⟨_, rfl, SD, _, rfl, .inl (SqL.of hs1), _, rfl, by omega, by omega, fun D2 hD2 => ?_⟩
  rw [hlen]
  have hSDx : SD ≠ D2 := fun z => by rw [z, hD2] at hs1; cases hs1
  refine lc_range (lo := 0) (n := prod e.szs) (fun i H' => Kp [] H1 H' ∧ H' D2 = some (.lst ((List.replicate i true).map V.bl))) ⟨Kp.new hD2 _, upd_same⟩ ?_ ?_
  · rintro i H' hi ⟨kp, hDi⟩
    have en : (0 : Int) + (i : Nat) = (i : Int) := by omega
    rw [en]
    have k1' := k1.trans kp
    have S' := S.kp k1' (by simp) (by simp)
    obtain ⟨dx, hp⟩ := S'.ob
    have hil : i < (sts e.szs).length := by omega
    have hsi := List.getElem?_eq_getElem hil
    generalize (sts e.szs)[i] = s at hsi
    obtain ⟨sa, ea, ha⟩ := hs2.2 i _ hsi
    have hvi := hv i s hsi
    obtain ⟨t, et, ht⟩ := t2.2 i _ hvi
    have hval := (sts_valid S.wf.pos hsi).1
    refine ⟨rfl, tYes_of ?_⟩
    refine iteT ?_
    refine ⟨_, rfl, e.p, dx, _, rfl, hp, flds_value_at _ _ _, _, rfl, _, rfl, _, rfl, SD, _, _, _, rfl, rfl, SqL.of (kp.lst hs1 (by simp)), atI_nat (by rw [List.getElem?_map, ea]; rfl), ?_⟩
    refine ⟨e, n, sa, s, st, T' s, rfl, S', kp.tup _ _ ha, N.tl s hval, fun r hr => ?_⟩
    refine ⟨_, rfl, _, rfl, D, _, _, _, rfl, rfl, SqL.of (k1'.lst t1 (by simp)), atI_nat (by rw [List.getElem?_map, et]; rfl), r, t, T' s, rfl, hr, ht.kp k1', fun H2 k2 => ?_⟩
    have hDi2 : H2 D2 = some (.lst ((List.replicate i true).map V.bl)) := k2.lst hDi (by simp)
    refine ⟨_, hDi2, by rw [List.length_map, List.length_replicate]; exact mill (by omega), (kp.trans k2).wrN hD2 hDi2 _, ?_⟩
    rw [upd_same, List.replicate_succ', List.map_append]
    rfl
  · rintro H' ⟨kp, hDi⟩
    refine ⟨D2, _, rfl, SqL.of hDi, ?_⟩
    have q := k H' (k1.trans kp)
    rw [← all_rep (prod e.szs)] at q
    exact q
/-! ### worth and mark of the law -/
def spLWorth : Sp := fun vs H Q _ => ∃ (b sa : Addr) (bs : Bxs) (s : List Nat) (o : Opn), vs = [.ref b, .ref sa, opV o] ∧ BoxAt H b bs ∧ bs.length ≤ 9 ∧ H sa = some (.tup (vI s)) ∧ s.length = bs.length ∧ OpOk bs o ∧ Q (.int (wo bs s o)) H
abbrev nLW : List Str := ["_law_boxes_here", "_law_state_here", "_law_operand_here", "_law_k"]
theorem scLWorth : FnScope nLW ["_law_boxes_here", "_law_state_here", "_law_operand_here"] (defScope sLWorth) := ⟨rfl, rfl, rfl, by decide +kernel, rfl, by decide +kernel, by decide +kernel⟩
theorem scal_op (nm : Str) (o : Opn) : scal (V.str nm) (opV o) = true := by cases o <;> rfl
theorem ok_lworth (T : Tx K mg) : FnOk P w K mg base CX0 1 T.lworth.f T.lworth.fd ["_law_boxes_here", "_law_state_here", "_law_operand_here"] spLWorth := by
  refine T.lworth.F.ok scLWorth (fun vs H Q E h => ?_) (fun cdv A outer s0 H vs Q E hr h => ?_)
  · obtain ⟨b, sa, bs, s, o, rfl, _⟩ := h
    rfl
  obtain ⟨b, sa, bs, s, o, rfl, ⟨as, b1, b2, b3⟩, h9, hs, hsl, oo, k⟩ := h
  refine ⟨_, pss_cons (ps_for PassesOwn.never rfl (pi_range1 (by rfl) T.range (pa_cons (pe_callB call_len_seq (by rfl) T.len PySem.boot_len (pa_cons (pv 0) pa_nil)) pa_nil)) (pg_name (i := 3) scLWorth.nd rfl (Or.inl rfl))
      (pss_one (ps_if (pt_cmpR op_eq (pe_ix ix_tup (pe_ix ix_tup (pv 0) (pv 3) (fun _ _ => rfl)) pe_int (fun _ _ => rfl)) (pv 2) (nomark _)) (pss_one (ps_ret (pe_ix ix_tup (pv 1) (pv 3) (fun _ _ => rfl)))) pss_nil)))
    (pss_one (ps_ret (pv 2))), ?_⟩
  have hal : (as.map V.ref).length = bs.length := by rw [List.length_map, b2]
  refine ⟨_, rfl, b, _, rfl, .inr (SqT.of b1), _, rfl, by omega, by omega, ?_⟩
  rw [hal]
  refine for_range (lo := 0) (n := bs.length) (fun i σ H' => H' = H ∧ (∃ v, σ = [some (.ref b), some (.ref sa), some (opV o), v]) ∧ ∀ j q, j < i → bs[j]? = some q → V.str q.1 ≠ opV o) ⟨rfl, ⟨_, rfl⟩, fun j q h => absurd h (Nat.not_lt_zero _)⟩ ?_ ?_
  · rintro i σ H' hi ⟨rfl, ⟨v, rfl⟩, hno⟩
    have en : (0 : Int) + (i : Nat) = (i : Int) := by omega
    rw [en]
    have hb := List.getElem?_eq_getElem hi
    generalize bs[i] = q at hb
    obtain ⟨nm, z⟩ := q
    obtain ⟨a, ea, ha⟩ := b3 i nm z hb
    refine ⟨_, rfl, _, rfl, b, _, _, _, rfl, rfl, SqT.of b1, atI_nat (by rw [List.getElem?_map, ea]; rfl), a, _, _, _, rfl, rfl, SqT.of ha, at0, _, rfl, scal_op nm o, _, rfl, ?_⟩
    refine ite2 (fun c => ?_) (fun c => ?_)
    · have c1 := of_decide_eq_true c
      have his : i < s.length := by omega
      refine ⟨_, rfl, _, rfl, sa, _, _, _, rfl, rfl, SqT.of hs, atI_nat (vI_at (List.getElem?_eq_getElem his)), ?_⟩
      cases o with
      | num i => cases c1
      | nam x =>
        have c2 : nm = x := by
          injection c1
        subst c2
        have hix : ix bs nm = i := by
          have h1 := ix_lt oo
          have h2 : ix bs nm ≤ i := by
            by_cases hlt : i < ix bs nm
            · exact absurd rfl (ix_first hlt hb)
            · omega
          obtain ⟨y, hy⟩ := ix_at oo
          by_cases hlt : ix bs nm < i
          · exact absurd rfl (hno _ _ hlt hy)
          · omega
        have e : wo bs s (.nam nm) = ((s[i] : Nat) : Int) := by
          show ((s.getD (ix bs nm) 0 : Nat) : Int) = _
          rw [hix, List.getD_eq_getElem?_getD, List.getElem?_eq_getElem his]
          rfl
        rw [e] at k
        exact k
    · refine ⟨rfl, ⟨_, rfl⟩, fun j q hj hq => ?_⟩
      by_cases hji : j < i
      · exact hno j q hji hq
      · have e : j = i := by omega
        subst e
        rw [hb] at hq
        cases hq
        exact fun z => c (decide_eq_true z)
  · rintro σ H' ⟨rfl, ⟨v, rfl⟩, hno⟩
    refine ⟨_, rfl, ?_⟩
    cases o with
    | num i => exact k
    | nam x =>
      obtain ⟨y, hy⟩ := ix_at oo
      exact absurd rfl (hno _ _ (ix_lt oo) hy)
def spMark : Sp := fun vs H Q _ => ∃ (b sa ta : Addr) (bs : Bxs) (s : List Nat) (t : Tst), vs = [.ref b, .ref sa, .ref ta] ∧ BoxAt H b bs ∧ bs.length ≤ 9 ∧ H sa = some (.tup (vI s)) ∧ s.length = bs.length ∧ TstAt H ta t ∧ OpOk bs t.a ∧ OpOk bs t.b ∧
  ∀ r H', Kp [] H H' → FrAt H' r (b01 (hol bs s t), 1) → Q (.ref r) H'
abbrev nMk : List Str := ["_law_boxes_here", "_law_state_here", "_law_test_here", "_law_one", "_law_other"]
theorem scMark : FnScope nMk ["_law_boxes_here", "_law_state_here", "_law_test_here"] (defScope sMark) := ⟨rfl, rfl, rfl, by decide +kernel, rfl, by decide +kernel, by decide +kernel⟩
theorem ok_mark (T : Tx K mg) : FnOk P w K mg base CX0 2 T.mark.f T.mark.fd ["_law_boxes_here", "_law_state_here", "_law_test_here"] spMark := by
  refine T.mark.F.ok scMark (fun vs H Q E h => ?_) (fun cdv A outer s0 H vs Q E hr h => ?_)
  · obtain ⟨b, sa, ta, bs, s, t, rfl, _⟩ := h
    rfl
  obtain ⟨b, sa, ta, bs, s, t, rfl, B, h9, hs, hsl, ht, oa, ob, k⟩ := h
  have GW := ok_lworth (P := P) (w := w) (base := base) T
  refine ⟨_, pss_cons (ps_set (i := 3) scMark.nd rfl (Or.inl rfl) (pe_call GW hr rfl T.lworth.m T.lworth.F.kp T.lworth.b .nil pass0 (pa_cons (pv 0) (pa_cons (pv 1) (pa_cons (pe_ix ix_tup (pv 2) pe_int (fun _ _ => rfl)) pa_nil)))))
    (pss_cons (ps_set (i := 4) scMark.nd rfl (Or.inl rfl) (pe_call GW hr rfl T.lworth.m T.lworth.F.kp T.lworth.b .nil pass0 (pa_cons (pv 0) (pa_cons (pv 1) (pa_cons (pe_ix ix_tup (pv 2) pe_int (fun _ _ => rfl)) pa_nil)))))
    (pss_cons (ps_if (pt_cmpR op_eq (pe_ix ix_tup (pv 2) pe_int (fun _ _ => rfl)) pe_str (nomark _)) (pss_one (ps_ret (pe_tup (pa_cons (pe_callTy call_int1 (by rfl) T.int boot_int' (pa_cons (pe_cmpR op_eq (pv 3) (pv 4) (nomark _)) pa_nil)) (pa_cons pe_int pa_nil))))) pss_nil)
    (pss_cons (ps_if (pt_cmpR op_eq (pe_ix ix_tup (pv 2) pe_int (fun _ _ => rfl)) pe_str (nomark _)) (pss_one (ps_ret (pe_tup (pa_cons (pe_callTy call_int1 (by rfl) T.int boot_int' (pa_cons (pe_cmpR op_lt (pv 3) (pv 4) (nomark _)) pa_nil)) (pa_cons pe_int pa_nil))))) pss_nil)
    (pss_one (ps_ret (pe_tup (pa_cons (pe_callTy call_int1 (by rfl) T.int boot_int' (pa_cons (pe_cmpR op_ne (pv 3) (pv 4) (nomark _)) pa_nil)) (pa_cons pe_int pa_nil)))))))), ?_⟩
  refine ⟨_, rfl, _, rfl, _, rfl, ta, _, _, _, rfl, rfl, SqT.of ht, at0, b, sa, bs, s, t.a, rfl, B, h9, hs, hsl, oa, ?_⟩
  refine ⟨_, rfl, _, rfl, _, rfl, ta, _, _, _, rfl, rfl, SqT.of ht, at2, b, sa, bs, s, t.b, rfl, B, h9, hs, hsl, ob, ?_⟩
  have fin : ∀ c : Bool, c = hol bs s t → ∀ r, H r = none → Q (.ref r) (upd H r (.tup [.int (b01 c), .int 1])) := fun c ec r hr => by
    subst ec
    exact k r _ (Kp.new hr _) upd_same
  obtain ⟨ta', tg, tb⟩ := t
  cases tg with
  | eq =>
    refine ⟨_, rfl, ta, _, _, _, rfl, rfl, SqT.of ht, at1, rfl, _, rfl, ?_⟩
    refine ite2 (fun _ => ?_) (fun z => absurd (decide_eq_true rfl) z)
    refine ⟨_, rfl, _, rfl, rfl, .inr ⟨_, rfl, (by show 2 ≤ sizeLine; decide), fun r hr => ?_⟩⟩
    exact fin _ (dec_vi _ _) r hr
  | lt =>
    refine ⟨_, rfl, ta, _, _, _, rfl, rfl, SqT.of ht, at1, rfl, _, rfl, ?_⟩
    refine ite2 (fun z => absurd (of_decide_eq_true z) sg1) (fun _ => ?_)
    refine ⟨_, rfl, ta, _, _, _, rfl, rfl, SqT.of ht, at1, rfl, _, rfl, ?_⟩
    refine ite2 (fun _ => ?_) (fun z => absurd (decide_eq_true rfl) z)
    exact ⟨_, rfl, _, rfl, _, _, rfl, rfl, .inr ⟨_, rfl, (by show 2 ≤ sizeLine; decide), fun r hr => fin _ rfl r hr⟩⟩
  | ne =>
    refine ⟨_, rfl, ta, _, _, _, rfl, rfl, SqT.of ht, at1, rfl, _, rfl, ?_⟩
    refine ite2 (fun z => absurd (of_decide_eq_true z) sg2) (fun _ => ?_)
    refine ⟨_, rfl, ta, _, _, _, rfl, rfl, SqT.of ht, at1, rfl, _, rfl, ?_⟩
    refine ite2 (fun z => absurd (of_decide_eq_true z) sg3) (fun _ => ?_)
    refine ⟨_, rfl, _, rfl, rfl, .inr ⟨_, rfl, (by show 2 ≤ sizeLine; decide), fun r hr => ?_⟩⟩
    exact fin _ (congrArg (fun c => !c) (dec_vi _ _)) r hr
end
end Lots
end
section
set_option Elab.async false
set_option maxRecDepth 100000
set_option maxHeartbeats 4000000
set_option linter.unusedSectionVars false
namespace Lots
open PySem PySem.Spec PyProof.Rows L2
variable [TabP]
section
variable {P : Program} {w : World} {K : PySem.W.Frag} {mg : Str → Option Value} {base : Heap}
/-! ### states as data -/
def sD (s : List Nat) : PyData := .tuple ((s.map fun (k : Nat) => (k : Int)).map PyData.int)
theorem nat_ints {s s' : List Nat} : (s.map fun (k : Nat) => (k : Int)) = (s'.map fun (k : Nat) => (k : Int)) ↔ s = s' := by
  refine ⟨fun h => ?_, fun h => by rw [h]⟩
  exact List.map_inj_right (fun a b e => Int.ofNat.inj e) |>.mp h
theorem sD_eqv (s s' : List Nat) : PyData.eqv (sD s) (sD s') = decide (s = s') := by
  have e : PyData.eqv (sD s) (sD s') = PyData.eqvAll ((s.map fun (k : Nat) => (k : Int)).map PyData.int) ((s'.map fun (k : Nat) => (k : Int)).map PyData.int) := by
    unfold sD
    rw [PyData.eqv]
  rw [e, PySem.W.ked_eqvAll]
  exact decide_eq_decide.mpr nat_ints
theorem sD_shaped (s : List Nat) : SeqAt.shaped (sD s) = true := by
  unfold sD
  generalize (s.map fun (k : Nat) => (k : Int)) = ns
  simp [SeqAt.shaped, PyData.canLay0, PyData.depth, PySem.W.ke_canLayAll0, PySem.W.ke_depthAll]
theorem sDs_can : ∀ l : List (List Nat), PyData.canLayAll0 (l.map sD) = true
  | [] => rfl
  | s :: l => by
    rw [List.map_cons, PyData.canLayAll0, sDs_can l, Bool.and_true]
    exact SeqAt.canLay_of_shaped (sD_shaped s)
theorem sDs_depth : ∀ l : List (List Nat), PyData.depthAll (l.map sD) ≤ 1
  | [] => Nat.zero_le _
  | s :: l => by
    rw [List.map_cons, PyData.depthAll]
    have h1 := sDs_depth l
    have h2 : PyData.depth (sD s) = 1 := by
      unfold sD
      rw [PyData.depth, PySem.W.ke_depthAll]
    omega
theorem sDs_shaped (l : List (List Nat)) : SeqAt.shaped (.list (l.map sD)) = true := by
  have h := sDs_depth l
  unfold SeqAt.shaped
  rw [PyData.canLay0, sDs_can, PyData.depth, Bool.true_and]
  exact decide_eq_true (by omega)
theorem dp_ints {H : Hp} : ∀ s : List Nat, DpAll K H (vI s) ((s.map fun (k : Nat) => (k : Int)).map PyData.int)
  | [] => .nil
  | k :: s => .cons (.int _) (dp_ints s)
theorem sD_dp {H : Hp} {a : Addr} {s : List Nat} (h : H a = some (.tup (vI s))) : Dp K H (.ref a) (sD s) := .tup (SqT.of h) (dp_ints s)
theorem sDs_dp {H : Hp} : ∀ {as : List Addr} {l : List (List Nat)}, TupL H as l → DpAll K H (as.map V.ref) (l.map sD)
  | [], [], _ => .nil
  | [], _ :: _, h => by have z := h.1; cases z
  | _ :: _, [], h => by have z := h.1; cases z
  | a :: as, s :: l, h => by
    obtain ⟨b, e1, e2⟩ := h.2 0 s rfl
    have e3 : a = b := by simpa using e1
    subst e3
    refine .cons (sD_dp e2) (sDs_dp ⟨by have z := h.1; simpa using z, fun i s' e => ?_⟩)
    obtain ⟨c, c1, c2⟩ := h.2 (i + 1) s' (by rw [List.getElem?_cons_succ]; exact e)
    exact ⟨c, by rw [List.getElem?_cons_succ] at c1; exact c1, c2⟩
theorem opEqD {X : Cx} (K : PySem.W.Frag) (h : X.K = K) (hu : X.A.units + 64 < cLine) : OpR X (compareOp .Eq) (rEqD K) := h ▸ op_eqD hu
/-! ### held -/
def spHeld : Sp := fun vs H Q _ => ∃ (b D : Addr) (l num z : Nat) (bs : Bxs) (vals : List Frac) (T' : List Nat → Frac), vs = [.ref b, .ref D, .int (l : Int), .int (num : Int)] ∧ BoxAt H b bs ∧ bs.length ≤ 9 ∧ (∀ z ∈ bs.map (·.2), 1 ≤ z) ∧ prod (bs.map (·.2)) ≤ 1000 ∧
  TblAt H D vals ∧ (∀ (i : Nat) (s : List Nat), (sts (bs.map (·.2)))[i]? = some s → vals[i]? = some (T' s)) ∧ (bs.map (·.2))[l]? = some z ∧ num < z ∧
  ∀ (D' : Addr) (vals' : List Frac) (H' : Hp), H D' = none → TblAt H' D' vals' → (∀ (i : Nat) (s : List Nat), (sts (bs.map (·.2)))[i]? = some s → vals'[i]? = some (T' (s.set l num))) → Kp [] H H' → Q (.ref D') H'
abbrev nHe : List Str := ["_law_boxes_here", "_law_table_here", "_law_level", "_law_number", "_law_states_here", "_law_found", "_law_state_here", "_law_held_here"]
theorem scHeld : FnScope nHe ["_law_boxes_here", "_law_table_here", "_law_level", "_law_number"] (defScope sHeld) := ⟨rfl, rfl, rfl, by decide +kernel, rfl, by decide +kernel, by decide +kernel⟩
theorem ok_held (T : Tx K mg) : FnOk P w K mg base CX0 2 T.held.f T.held.fd ["_law_boxes_here", "_law_table_here", "_law_level", "_law_number"] spHeld := by
  refine T.held.F.ok scHeld (fun vs H Q E h => ?_) (fun cdv A outer s0 H vs Q E hr h => ?_)
  · obtain ⟨b, D, l, num, z, bs, vals, T', rfl, _⟩ := h
    rfl
  obtain ⟨b, D, l, num, z, bs, vals, T', rfl, B, h9, hpos, hpr, hT, hv, hz, hnum, k⟩ := h
  have GS := ok_states (P := P) (w := w) (base := base) T
  have hu65 : ∀ env : Env, Room 1 (A.deeper env) → (A.deeper env).units + 65 < cLine := fun env r => by have := r.un; omega
  refine ⟨_, pss_cons (ps_set (i := 4) scHeld.nd rfl (Or.inl rfl) (pe_call GS hr rfl T.states.m T.states.F.kp T.states.b .nil pass0 (pa_cons (pv 0) pa_nil)))
    (pss_cons (ps_set (i := 5) scHeld.nd rfl (Or.inl rfl) (pe_lst pa_nil))
    (pss_cons (ps_for PassesOwn.never rfl (pi_list (pv 4)) (pg_name (i := 6) scHeld.nd rfl (Or.inl rfl))
      (pss_cons (ps_set (i := 7) scHeld.nd rfl (Or.inl rfl) (pe_op op_catU (pe_op op_catU (pe_slice sl_tupU (pv 6) po_none (po_some (pv 2))) (pe_tup (pa_cons (pv 3) pa_nil))) (pe_slice sl_tupU (pv 6) (po_some (pe_op op_add (pv 2) pe_int)) po_none)))
      (pss_one (ps_expr (pe_bm PySem.F.plainAttrs_list PySem.F.slot_list_append PySem.F.type_list_append mt_append (pv 5) (pa_cons
        (pe_ix ix_list (pv 1) (pe_bm PySem.F.plainAttrs_list PySem.F.slot_list_index PySem.F.type_list_index (mt_indexD (hu65 _ hr)) (pv 4) (pa_cons (pv 7) pa_nil)) (fun _ _ => rfl)) pa_nil))))))
    (pss_one (ps_ret (pv 5))))), ?_⟩
  refine ⟨_, rfl, b, bs, rfl, B, h9, hpos, hpr, fun SD H1 hSD0 hSD k1 => ?_⟩
  obtain ⟨sas, hs1, hs2⟩ := id hSD
  have hT1 := hT.kp k1 (by simp)
  have hstl := sts_len hpos
  refine ⟨Nat.zero_le _, fun F hF => ?_⟩
  have hSDF : SD ≠ F := ne_of_none hs1 hF
  have kF : Kp [] H1 (upd H1 F (.lst [])) := Kp.new hF _
  obtain ⟨ts, t1, t2⟩ := id hT1
  have hDF : D ≠ F := ne_of_none t1 hF
  have hszl : (bs.map (·.2)).length = bs.length := List.length_map _
  have hll : l < bs.length := by
    have q := (List.getElem?_eq_some_iff.mp hz).1
    omega
  refine ⟨_, rfl, SD, rfl, ⟨_, SqL.of (kF.lst hs1 (by simp))⟩, ?_⟩
  refine for_list (K := K) (xs := sas.map V.ref) (fun i σ H' => ∃ (v6 v7 : Option V) (vals' : List Frac), σ = [some (.ref b), some (.ref D), some (.int (l : Int)), some (.int (num : Int)), some (.ref SD), some (.ref F), v6, v7] ∧ Kp [] H1 H' ∧ TblAt H' F vals' ∧ vals'.length = i ∧
      ∀ (j : Nat) (s : List Nat), j < i → (sts (bs.map (·.2)))[j]? = some s → vals'[j]? = some (T' (s.set l num)))
    ⟨none, none, [], rfl, kF, ⟨[], upd_same, FrL.nil⟩, rfl, fun j s h => absurd h (Nat.not_lt_zero _)⟩ (fun i σ H' _ ⟨_, _, _, _, kp, _⟩ => SqL.of (kp.lst hs1 (by simp))) ?_ ?_
  · rintro i y σ H2 hi ⟨v6, v7, vals', rfl, k2, hF2, hvl, hv'⟩
    have hil : i < (sts (bs.map (·.2))).length := by
      have q := (List.getElem?_eq_some_iff.mp hi).1
      rw [List.length_map, hs2.1] at q
      exact q
    have hsi := List.getElem?_eq_getElem hil
    obtain ⟨sa, ea, ha⟩ := hs2.2 i _ hsi
    obtain rfl : y = V.ref sa := by
      rw [List.getElem?_map, ea] at hi
      exact (Option.some.inj hi).symm
    have hval := (sts_valid hpos hsi).1
    generalize (sts (bs.map (·.2)))[i] = s at hsi ha hval
    have ha2 := k2.tup _ _ ha
    have hi1000 : i < 1000 := by omega
    have hsl : s.length = bs.length := by rw [hval.1, hszl]
    have hvl1 : l ≤ (vI s).length := by rw [List.length_map]; omega
    have hvl2 : l + 1 ≤ (vI s).length := by rw [List.length_map]; omega
    refine ⟨_, rfl, _, rfl, _, rfl, sa, _, rfl, ha2, fun p1 H3 k3 hp1 => ?_⟩
    rw [cut_to hvl1] at hp1
    refine ⟨_, rfl, (by show 1 ≤ sizeLine; decide), fun p2 hp2 => ?_⟩
    have n2 : Kp [] H3 (upd H3 p2 (.tup [.int (num : Int)])) := Kp.new hp2 _
    refine ⟨p1, p2, _, _, rfl, rfl, n2.tup _ _ hp1, upd_same, ?_, fun p3 H4 k4 hp3 => ?_⟩
    · rw [List.length_take, List.length_map, List.length_singleton]
      exact Nat.le_of_lt (mill (by omega))
    have k34 : Kp [] H2 H4 := k3.trans (n2.trans k4)
    have el : ((l : Int) + 1) = ((l + 1 : Nat) : Int) := by omega
    refine ⟨_, rfl, _, rfl, _, _, rfl, rfl, _, rfl, sa, _, rfl, k34.tup _ _ ha2, fun p4 H5 k5 hp4 => ?_⟩
    rw [el, cut_from hvl2] at hp4
    refine ⟨p3, p4, _, _, rfl, rfl, k5.tup _ _ hp3, hp4, ?_, fun p5 H6 k6 hp5 => ?_⟩
    · rw [List.length_append, List.length_take, List.length_drop, List.length_map, List.length_singleton]
      exact Nat.le_of_lt (mill (by omega))
    rw [vI_set (by omega)] at hp5
    have k26 : Kp [] H2 H6 := k34.trans (k5.trans k6)
    have k16 : Kp [] H1 H6 := k2.trans k26
    obtain ⟨ts', f1, f2⟩ := hF2.kp k26 (by simp)
    have hvs : Valid (bs.map (·.2)) (s.set l num) := hval.set hz hnum
    have hat := sts_at hpos hvs
    have hlt := idx_lt hpos hvs
    have hvj := hv _ _ hat
    obtain ⟨t, e1, e2⟩ := t2.2 _ _ hvj
    have hs1' := k16.lst hs1 (by simp)
    have hs2' := hs2.kp k16
    refine ⟨_, rfl, .inl ⟨rfl, _, SqL.of f1⟩, _, rfl, _, rfl, .inl ⟨rfl, _, SqL.of hs1'⟩, _, rfl, ?_⟩
    refine ⟨SD, _, sD (s.set l num), (sts (bs.map (·.2))).map sD, idx 0 (bs.map (·.2)) (s.set l num), sD (s.set l num), rfl, rfl, .lst (SqL.of hs1') (sDs_dp hs2'), sD_dp hp5, sDs_shaped _, sD_shaped _, ?_, ?_, ?_, ?_⟩
    · rw [List.getElem?_map, hat]
      rfl
    · rw [sD_eqv]
      exact decide_eq_true rfl
    · intro m z' hm ez
      rw [List.getElem?_map] at ez
      cases q : (sts (bs.map (·.2)))[m]? with
      | none => rw [q] at ez; cases ez
      | some s' =>
        rw [q] at ez
        have ez : sD s' = z' := Option.some.inj ez
        rw [← ez, sD_eqv]
        exact decide_eq_false (sts_first hpos hvs hm q)
    · refine ⟨D, _, _, _, rfl, rfl, SqL.of (k16.lst t1 (by simp)), atI_nat (by rw [List.getElem?_map, e1]; rfl), F, _, _, rfl, rfl, f1, by rw [List.length_map, f2.1, hvl]; exact mill (by omega), ?_⟩
      have kd : Kp [F] H6 (upd H6 F (.lst (ts'.map V.ref ++ [.ref t]))) := Kp.wrL f1 (by simp) _
      refine ⟨_, _, vals' ++ [T' (s.set l num)], rfl, k16.wrN hF f1 _, ⟨ts' ++ [t], by rw [upd_same, List.map_append]; rfl, (f2.kp kd).snoc ((e2.kp k16).kp kd)⟩, by rw [List.length_append, hvl]; rfl, fun j s' hj hs' => ?_⟩
      by_cases hji : j < i
      · rw [List.getElem?_append_left (by omega)]
        exact hv' j s' hji hs'
      · have ej : j = i := by omega
        subst ej
        rw [hsi] at hs'
        cases hs'
        rw [List.getElem?_append_right (by omega), hvl, Nat.sub_self]
        rfl
  · rintro σ H2 ⟨v6, v7, vals', rfl, k2, hF2, hvl, hv'⟩
    refine ⟨_, rfl, k F vals' H2 (k1.fr _ hF) hF2 (fun i s hs => hv' i s ?_ hs) (k1.trans k2)⟩
    have q := (List.getElem?_eq_some_iff.mp hs).1
    rw [List.length_map, hs2.1]
    exact q
end
end Lots
end
section
set_option Elab.async false
set_option maxRecDepth 100000
set_option maxHeartbeats 4000000
set_option linter.unusedSectionVars false
namespace Lots
open PySem PySem.Spec PyProof.Rows L2
variable [TabP]
section
variable {P : Program} {w : World} {K : PySem.W.Frag} {mg : Str → Option Value} {base : Heap}
/-! ### fixes -/
/-- the store tells of all states, and the table lists it -/
def Lists (szs : List Nat) (vals : List Frac) (T' : List Nat → Frac) : Prop := ∀ (i : Nat) (s : List Nat), (sts szs)[i]? = some s → vals[i]? = some (T' s)
def spFixes (P : Program) (w : World) (C : Addr) : Sp := fun vs H Q _ => ∃ (L : Addr) (e : En) (n : Nat) (D : Addr) (vals : List Frac) (st : Sto) (T' : List Nat → Frac), vs = [.ref L, .ref e.p, .ref e.b, .int (n : Int), .ref D] ∧ LeftAt H L ∧ L ∉ e.ex ∧ SAt P w C e H st ∧ Nd e.szs st 0 n T' ∧
  TblAt H D vals ∧ D ∉ L :: e.ex ∧ Lists e.szs vals T' ∧ prod e.szs ≤ 1000 ∧ e.bs.length ≤ 9 ∧ cst e.szs ≤ 1000 ∧ st.length + 30000 < 1000000 ∧
  ∀ (st' : Sto) (H' : Hp), Ext st st' → st'.length ≤ st.length + 30000 → SAt P w C e H' st' → LeftAt H' L → Kp (L :: e.ex) H H' → Q (.bl true) H'
abbrev nFx : List Str := ["_law_left", "_law_store", "_law_boxes_here", "_law_node_here", "_law_table_here", "_law_level", "_law_number", "_law_other", "_law_fixed"]
abbrev aFx : List Str := ["_law_left", "_law_store", "_law_boxes_here", "_law_node_here", "_law_table_here"]
theorem scFixes : FnScope nFx aFx (defScope sFixes) := ⟨rfl, rfl, rfl, by decide +kernel, rfl, by decide +kernel, by decide +kernel⟩
theorem ne_self {n m : Nat} (h : n = m) : ¬ (!decide (V.int (n : Int) = V.int (m : Int))) = true := by
  rw [h, decide_eq_true rfl]
  exact Bool.false_ne_true
theorem ok_fixes (T : Tx K mg) : FnOk P w K mg base CX0 14 T.fixes.f T.fixes.fd aFx (spFixes P w T.C) := by
  refine T.fixes.F.ok scFixes (fun vs H Q E h => ?_) (fun cdv A outer s0 H vs Q E hr h => ?_)
  · obtain ⟨L, e, n, D, vals, st, T', rfl, _⟩ := h
    rfl
  obtain ⟨L, e, n, D, vals, st, T', rfl, hL, hLx, S, N, hT, hDx, hv, hpr, h9, hcs, hlen, k⟩ := h
  have GT := ok_take (P := P) (w := w) (base := base) T
  have GF := ok_fixed (P := P) (w := w) (base := base) T 10
  have GH := ok_held (P := P) (w := w) (base := base) T
  have GE := ok_tells (P := P) (w := w) (base := base) T
  have hr1 : Room 1 _ := hr.mono (by decide)
  have hr2 : Room 2 _ := hr.mono (by decide)
  have hr3 : Room 3 _ := hr.mono (by decide)
  refine ⟨_, pss_cons (ps_for PassesOwn.never rfl (pi_range1 (by rfl) T.range (pa_cons (pe_callB call_len_seq (by rfl) T.len PySem.boot_len (pa_cons (pv 2) pa_nil)) pa_nil)) (pg_name (i := 5) scFixes.nd rfl (Or.inl rfl))
      (pss_cons (ps_set (i := 6) scFixes.nd rfl (Or.inl rfl) (pe_call GT hr1 rfl T.take.m T.take.F.kp T.take.b .nil pass0 (pa_cons (pv 0) (pa_cons (pe_ix ix_tup (pe_ix ix_tup (pv 2) (pv 5) (fun _ _ => rfl)) pe_int (fun _ _ => rfl)) pa_nil))))
      (pss_cons (ps_set (i := 7) scFixes.nd rfl (Or.inl rfl) (pe_call GT hr1 rfl T.take.m T.take.F.kp T.take.b .nil pass0 (pa_cons (pv 0) (pa_cons (pe_ix ix_tup (pe_ix ix_tup (pv 2) (pv 5) (fun _ _ => rfl)) pe_int (fun _ _ => rfl)) pa_nil))))
      (pss_cons (ps_set (i := 8) scFixes.nd rfl (Or.inl rfl) (pe_meth (pv 1) T.cl T.fixed.m GF hr T.fixed.b .nil pass0 (pa_cons (pv 3) (pa_cons (pv 5) (pa_cons (pv 6) pa_nil)))))
      (pss_cons (ps_if (pt_not (pt_val (pe_call GE hr3 rfl T.tells.m T.tells.F.kp T.tells.b .nil pass0 (pa_cons (pv 1) (pa_cons (pv 2) (pa_cons (pv 8)
        (pa_cons (pe_call GH hr2 rfl T.held.m T.held.F.kp T.held.b .nil pass0 (pa_cons (pv 2) (pa_cons (pv 4) (pa_cons (pv 5) (pa_cons (pv 6) pa_nil))))) pa_nil))))))) pss_never pss_nil)
      (pss_one (ps_if (PW.pt (pw_or (pt_cmpR op_ne (pe_meth (pv 1) T.cl T.fixed.m GF hr T.fixed.b .nil pass0 (pa_cons (pv 8) (pa_cons (pv 5) (pa_cons (pv 7) pa_nil)))) (pv 8) (nomark _))
        (pw_or1 (pt_cmpR op_ne (pe_meth (pv 1) T.cl T.fixed.m GF hr T.fixed.b .nil pass0 (pa_cons (pv 3) (pa_cons (pv 5) (pa_cons (pv 6) pa_nil)))) (pv 8) (nomark _))))) pss_never pss_nil)))))))
    (pss_one (ps_ret (pe_call GE hr3 rfl T.tells.m T.tells.F.kp T.tells.b .nil pass0 (pa_cons (pv 1) (pa_cons (pv 2) (pa_cons (pv 3) (pa_cons (pv 4) pa_nil))))))), ?_⟩
  obtain ⟨as, b1, b2, b3⟩ := id S.bx
  have hszl : e.szs.length = e.bs.length := List.length_map _
  have hal : (as.map V.ref).length = e.bs.length := by rw [List.length_map, b2]
  have lkL : e.lk ∉ [L] := fun z => hLx (by rw [← List.mem_singleton.mp z]; exact List.mem_cons_self)
  have dL : e.d ∉ [L] := fun z => hLx (by rw [← List.mem_singleton.mp z]; exact List.mem_cons_of_mem _ (List.mem_singleton.mpr rfl))
  have m1 : ∀ {H H' : Hp}, Kp [L] H H' → Kp (L :: e.ex) H H' := fun q => q.mono fun b hb => by rw [List.mem_singleton.mp hb]; exact List.mem_cons_self
  have m2 : ∀ {H H' : Hp}, Kp e.ex H H' → Kp (L :: e.ex) H H' := fun q => q.mono fun b hb => List.mem_cons_of_mem _ hb
  refine ⟨_, rfl, e.b, _, rfl, .inr (SqT.of b1), _, rfl, by omega, by omega, ?_⟩
  rw [hal]
  refine for_range (lo := 0) (n := e.bs.length) (fun i σ H' => ∃ (v5 v6 v7 v8 : Option V) (sti : Sto), i ≤ e.bs.length ∧ σ = [some (.ref L), some (.ref e.p), some (.ref e.b), some (.int (n : Int)), some (.ref D), v5, v6, v7, v8] ∧
      SAt P w T.C e H' sti ∧ Ext st sti ∧ sti.length ≤ st.length + i * 3000 ∧ LeftAt H' L ∧ Kp (L :: e.ex) H H')
    ⟨none, none, none, none, st, Nat.zero_le _, rfl, S, Ext.refl _, by omega, hL, Kp.refl _ _⟩ ?_ ?_
  · rintro l σ H1 hl ⟨v5, v6, v7, v8, sti, _, rfl, S1, E1, l1, hL1, k1⟩
    have en : (0 : Int) + (l : Nat) = (l : Int) := by omega
    rw [en]
    have hll : l < e.szs.length := by omega
    have hz : e.szs[l]? = some e.bs[l].2 := by rw [List.getElem?_map, List.getElem?_eq_getElem hl]; rfl
    obtain ⟨ba, d1, d2⟩ := b3 l e.bs[l].1 e.bs[l].2 (List.getElem?_eq_getElem hl)
    generalize e.bs[l].2 = z at hz d2
    generalize e.bs[l].1 = nm at d2
    have hz1 := S.wf.pos z (List.mem_of_getElem? hz)
    have hzp := Nat.le_trans (le_prod S.wf.pos (List.mem_of_getElem? hz)) hpr
    have h1000 : ∀ y ∈ e.szs, y ≤ 1000 := fun y hy => Nat.le_trans (le_prod S.wf.pos hy) hpr
    have hd0 : e.szs.drop 0 = e.szs := List.drop_zero
    refine ⟨_, rfl, _, rfl, _, rfl, e.b, _, _, _, rfl, rfl, SqT.of (k1.tup _ _ b1), atI_nat (by rw [List.getElem?_map, d1]; rfl), ba, _, _, _, rfl, rfl, SqT.of (k1.tup _ _ d2), at1, L, (z : Int), rfl, hL1, by omega, fun v H2 v0 vz hL2 k2 => ?_⟩
    obtain ⟨num, rfl⟩ := Int.eq_ofNat_of_zero_le v0
    have k02 := k1.trans (m1 k2)
    refine ⟨_, rfl, _, rfl, _, rfl, e.b, _, _, _, rfl, rfl, SqT.of (k02.tup _ _ b1), atI_nat (by rw [List.getElem?_map, d1]; rfl), ba, _, _, _, rfl, rfl, SqT.of (k02.tup _ _ d2), at1, L, (z : Int), rfl, hL2, by omega, fun u H3 u0 uz hL3 k3 => ?_⟩
    obtain ⟨oth, rfl⟩ := Int.eq_ofNat_of_zero_le u0
    have S3 := S1.kp (k2.trans k3) lkL dL
    have k03 := k02.trans (m1 k3)
    obtain ⟨dx3, hp3⟩ := S3.ob
    have hnum : num < z := by omega
    have hoth : oth < z := by omega
    refine ⟨_, rfl, e.p, dx3, _, rfl, hp3, flds_fixed _ _ _, _, rfl, _, rfl, _, rfl, e, n, l, num, z, 0, sti, T', rfl, S3, N.ext E1, hz, hnum, hzp, h1000, by omega, by rw [hd0]; omega, fun st4 nf H4 E4 l4 N4 S4 k4 => ?_⟩
    rw [hd0] at l4
    have k04 := k03.trans (m2 k4)
    have hL4 := hL3.kp k4 hLx
    have hD4 := hT.kp k04 hDx
    -- tells
    refine ⟨_, rfl, _, rfl, _, rfl, _, rfl, _, rfl, _, rfl, _, rfl, e.b, D, l, num, z, e.bs, vals, T', rfl, S4.bx, h9, S.wf.pos, hpr, hD4, hv, hz, hnum, fun D' vals' H5 hD'0 hD' hv' k5 => ?_⟩
    have S5 := S4.kp k5 (by simp) (by simp)
    refine ⟨e, nf, D', vals', st4, fun s => T' (s.set l num), rfl, S5, N4, hD', hv', hpr, h9, fun H6 k6 => ⟨_, rfl, iteF ?_⟩⟩
    have S6 := S5.kp k6 (by simp) (by simp)
    have k46 : Kp [] H4 H6 := k5.trans k6
    have k06 := k04.trans (Kp.of0 k46)
    have hL6 := hL4.kp k46 (by simp)
    -- fixed again, at another number
    obtain ⟨dx6, hp6⟩ := S6.ob
    refine ⟨_, rfl, e.p, dx6, _, rfl, hp6, flds_fixed _ _ _, _, rfl, _, rfl, _, rfl, e, nf, l, oth, z, 0, st4, _, rfl, S6, N4, hz, hoth, hzp, h1000, by omega, by rw [hd0]; omega, fun st7 nf7 H7 E7 l7 N7 S7 k7 => ?_⟩
    rw [hd0] at l7
    have e7 : nf7 = nf := Nd.same S7.wf N7 (N4.ext E7) fun s _ => by
      show T' ((s.set l oth).set l num) = T' (s.set l num)
      rw [List.set_set]
    refine ⟨_, rfl, rfl, _, rfl, ?_⟩
    refine ite2 (fun q => absurd q (ne_self e7)) (fun _ => ?_)
    obtain ⟨dx7, hp7⟩ := S7.ob
    refine ⟨_, rfl, e.p, dx7, _, rfl, hp7, flds_fixed _ _ _, _, rfl, _, rfl, _, rfl, e, n, l, num, z, 0, st7, T', rfl, S7, N.ext (E1.trans (E4.trans E7)), hz, hnum, hzp, h1000, by omega, by rw [hd0]; omega, fun st8 nf8 H8 E8 l8 N8 S8 k8 => ?_⟩
    rw [hd0] at l8
    have e8 : nf8 = nf := Nd.same S8.wf N8 (N4.ext (E7.trans E8)) fun s _ => rfl
    refine ⟨_, rfl, rfl, _, rfl, ?_⟩
    refine ite2 (fun q => absurd q (ne_self e8)) (fun _ => ?_)
    have k68 := k7.trans k8
    exact ⟨_, _, _, _, st8, hl, rfl, S8, E1.trans (E4.trans (E7.trans E8)), by omega, hL6.kp k68 hLx, k06.trans (m2 k68)⟩
  · rintro σ H1 ⟨v5, v6, v7, v8, sti, _, rfl, S1, E1, l1, hL1, k1⟩
    refine ⟨_, rfl, _, rfl, _, rfl, _, rfl, e, n, D, vals, sti, T', rfl, S1, N.ext E1, hT.kp k1 hDx, hv, hpr, h9, fun H2 k2 => ?_⟩
    exact k sti H2 E1 (by omega) (S1.kp k2 (by simp) (by simp)) (hL1.kp k2 (by simp)) (k1.trans (Kp.of0 k2))
end
end Lots
end
section
set_option Elab.async false
set_option maxRecDepth 100000
set_option maxHeartbeats 4000000
set_option linter.unusedSectionVars false
namespace Lots
open PySem PySem.Spec PyProof.Rows L2 NdefX LamX
variable [TabP]
section
variable {P : Program} {w : World} {K : PySem.W.Frag} {mg : Str → Option Value} {base : Heap}
/-! ### the law -/
theorem cst_prod : ∀ {l : List Nat}, (∀ z ∈ l, 1 ≤ z) → cst l ≤ (l.length + 1) * prod l
  | [], _ => Nat.le_refl _
  | z :: r, h => by
    have hz := h z List.mem_cons_self
    have hr : ∀ y ∈ r, 1 ≤ y := fun y hy => h y (List.mem_cons_of_mem _ hy)
    have ih := cst_prod hr
    have hp := prod_pos hr
    have h1 : z * cst r ≤ z * ((r.length + 1) * prod r) := Nat.mul_le_mul_left _ ih
    have h2 : 1 ≤ z * prod r := Nat.mul_pos hz hp
    show 1 + z * cst r ≤ (r.length + 1 + 1) * (z * prod r)
    have h3 : z * ((r.length + 1) * prod r) = (r.length + 1) * (z * prod r) := Nat.mul_left_comm _ _ _
    have h4 : (r.length + 1 + 1) * (z * prod r) = (r.length + 1) * (z * prod r) + z * prod r := Nat.succ_mul _ _
    omega
theorem cutV_ints (ns : List Int) (lo hi : Option Int) : ∃ ys : List Int, cutV (iV ns) lo hi = iV ys := by
  refine ⟨(ns.drop (HT.sIx (iV ns).length 0 lo)).take (HT.sIx (iV ns).length (iV ns).length hi - HT.sIx (iV ns).length 0 lo), ?_⟩
  unfold cutV
  show _ = List.map V.int _
  rw [List.map_take, List.map_drop]
theorem TabR.of {H H' : Hp} (t : TabR H) (e : ∀ b o, H b = some o → H' b = some o) : TabR H' := NdefX.TabsN.ext t e
/-- a store is made -/
theorem Kp.make {H H' : Hp} {x dx C : Addr} {fs : List (Str × V)} (hx : H x = none) (hdx : H dx = none) (k1 : ∀ a o, a ≠ x → upd (upd H dx (.own x)) x (.ins C dx fs) a = some o → H' a = some o)
    (k2 : ∀ a, H' a = none → upd (upd H dx (.own x)) x (.ins C dx fs) a = none) : Kp [] H H' := by
  have e : ∀ b o, H b = some o → H' b = some o := fun b o q => k1 b o (ne_of_none q hx) (by rw [upd_ne (ne_of_none q hx), upd_ne (ne_of_none q hdx)]; exact q)
  refine ⟨fun b o q _ _ => e b o q, fun b xs q => e b _ q, fun b C dx fs q => e b _ q, fun b q => ?_, fun t => t.of e⟩
  have z := k2 b q
  by_cases h1 : b = x
  · rw [h1]; exact hx
  · by_cases h2 : b = dx
    · rw [h2]; exact hdx
    · rw [upd_ne h1, upd_ne h2] at z
      exact z
theorem most_at (j : Nat) (hj : j < 4) : ∃ m : Nat, ([V.int 24, V.int 24, V.int 24, V.int 90] : List V)[j]? = some (V.int (m : Int)) ∧ 1 ≤ m ∧ m ≤ 90 := by
  match j, hj with
  | 0, _ => exact ⟨24, rfl, by decide, by decide⟩
  | 1, _ => exact ⟨24, rfl, by decide, by decide⟩
  | 2, _ => exact ⟨24, rfl, by decide, by decide⟩
  | 3, _ => exact ⟨90, rfl, by decide, by decide⟩
theorem flds_marked (b l d : Addr) : (flds b l d).lookup ("marked" : Str) = none := flds_no _ _ _ (by decide +kernel) (by decide +kernel) (by decide +kernel)
theorem flds_point (b l d : Addr) : (flds b l d).lookup ("point" : Str) = none := flds_no _ _ _ (by decide +kernel) (by decide +kernel) (by decide +kernel)
abbrev nLa : List Str := ["_law_script", "_law_left", "_law_most", "_law_boxes_here", "_law_state_here", "_law_test_here", "_law_table_here", "_law_store", "_law_node_here", "_law_mark_here", "_law_marks", "_law_one", "_law_spot", "_law_spots"]
theorem scLaw : FnScope nLa ["_law_script"] (defScope sLaw) := ⟨rfl, rfl, rfl, by decide +kernel, rfl, by decide +kernel, by decide +kernel⟩
def spLaw (K : PySem.W.Frag) : Sp := fun vs H Q _ => ∃ (a : Addr) (ns : List Int), vs = [.ref a] ∧ SqL K H a (ns.map V.int) ∧ TabR H ∧ ∀ H', Q (.bl true) H'
theorem ok_law (T : Tx K mg) (TB : TabB base mg T.mcode TabP.pt) {f : Addr} {fd : FuncData} (F : Fun K "law" "law" sLaw f fd) : FnOk P w K mg base CX0 18 f fd ["_law_script"] (spLaw K) := by
  refine F.ok scLaw (fun vs H Q E h => ?_) (fun cdv A outer s0 H vs Q E hr h => ?_)
  · obtain ⟨a, ns, rfl, _⟩ := h
    rfl
  obtain ⟨a, ns, rfl, hS, TR, k⟩ := h
  have GT := ok_take (P := P) (w := w) (base := base) T
  have GB := ok_boxes (P := P) (w := w) (base := base) T
  have GSt := ok_state (P := P) (w := w) (base := base) T
  have GTe := ok_test (P := P) (w := w) (base := base) T
  have GTa := ok_table (P := P) (w := w) (base := base) T
  have GI := ok_init (P := P) (w := w) (base := base) T
  have GN := ok_node (P := P) (w := w) (base := base) T 10
  have GM := ok_marked (P := P) (w := w) (base := base) T TB
  have GMk := ok_mark (P := P) (w := w) (base := base) T
  have GP := ok_point (P := P) (w := w) (base := base) T
  have GS := ok_states (P := P) (w := w) (base := base) T
  have GTl := ok_tells (P := P) (w := w) (base := base) T
  have GFx := ok_fixes (P := P) (w := w) (base := base) T
  have M : Mk K T.C T.init.f := ⟨T.mks, T.init.m.at_, T.init.m.fn, T.kc⟩
  have hu : (A.deeper (envOfC "law" (defScope sLaw) s0.heap.objs.size f cdv)).units + 64 < cLine := hr.units
  have r1 : Room 1 _ := hr.mono (by decide)
  have r2 : Room 2 _ := hr.mono (by decide)
  have r3 : Room 3 _ := hr.mono (by decide)
  have r13 : Room 13 _ := hr.mono (by decide)
  have r14 : Room 14 _ := hr.mono (by decide)
  refine ⟨_, pss_cons (ps_set (i := 1) scLaw.nd rfl (Or.inl rfl) (pe_listRev rfl (by rfl) T.list (by rfl) T.rev (pe_slice sl_list (pv 0) po_none (po_some pe_int))))
    (pss_cons (ps_set (i := 2) scLaw.nd rfl (Or.inl rfl) (pe_ix ix_list (pe_lst (pa_cons pe_int (pa_cons pe_int (pa_cons pe_int (pa_cons pe_int pa_nil))))) (pe_call GT r1 rfl T.take.m T.take.F.kp T.take.b .nil pass0 (pa_cons (pv 1) (pa_cons pe_int pa_nil))) (fun _ _ => rfl)))
    (pss_cons (ps_set (i := 3) scLaw.nd rfl (Or.inr rfl) (pe_call GB r3 rfl T.lboxes.m T.lboxes.F.kp T.lboxes.b .nil pass0 (pa_cons (pv 1) (pa_cons (pv 2) pa_nil))))
    (pss_cons (ps_set (i := 4) scLaw.nd rfl (Or.inr rfl) (pe_call GSt r2 rfl T.state.m T.state.F.kp T.state.b .nil pass0 (pa_cons (pv 1) (pa_cons (pv 3) pa_nil))))
    (pss_cons (ps_set (i := 5) scLaw.nd rfl (Or.inr rfl) (pe_call GTe r3 rfl T.test.m T.test.F.kp T.test.b .nil pass0 (pa_cons (pv 1) (pa_cons (pv 3) pa_nil))))
    (pss_cons (ps_set (i := 6) scLaw.nd rfl (Or.inl rfl) (pe_call GTa r3 rfl T.table.m T.table.F.kp T.table.b .nil pass0 (pa_cons (pv 1) (pa_cons (pv 3) pa_nil))))
    (pss_cons (ps_set (i := 7) scLaw.nd rfl (Or.inl rfl) (pe_make M GI r2 rfl T.mgC T.init.b .nil pass0 (pa_cons (pv 3) pa_nil)))
    (pss_cons (ps_set (i := 8) scLaw.nd rfl (Or.inl rfl) (pe_call GN r13 rfl T.node.m T.node.F.kp T.node.b .nil pass0 (pa_cons (pv 7) (pa_cons (pv 3) (pa_cons pe_int (pa_cons (pv 6) pa_nil))))))
    (pss_cons (ps_set (i := 9) scLaw.nd rfl (Or.inl rfl) (pe_meth (pv 7) T.cl T.marked.m GM hr T.marked.b .nil pass0 (pa_cons (pv 5) pa_nil)))
    (pss_cons (ps_setLc (i := 10) (own := [("_law_one", 11)]) (g := gName 11) (tt := tYes) rfl scLaw.nd rfl rfl (sw_true rfl rfl rfl (by decide +kernel)) (pi_list (pe_call GS r1 rfl T.states.m T.states.F.kp T.states.b .nil pass0 (pa_cons (pv 3) pa_nil)))
      (blkOk_by (N := nLa) (sc := defScope sLaw) (by decide +kernel)) (fun _ _ _ _ _ => pg_name (i := 11) scLaw.nd rfl (Or.inl rfl)) (fun _ _ _ _ _ => pts_nil)
      (fun _ _ _ _ _ => pe_call GMk r2 rfl T.mark.m T.mark.F.kp T.mark.b .nil pass0 (pa_cons (pv 3) (pa_cons (pv 11) (pa_cons (pv 5) pa_nil)))))
    (pss_cons (ps_set (i := 12) scLaw.nd rfl (Or.inl rfl) (pe_meth (pv 7) T.cl T.point.m GP r3 T.point.b .nil pass0 (pa_cons (pv 4) pa_nil)))
    (pss_cons (ps_setLc (i := 13) (own := [("_law_one", 11)]) (g := gName 11) (tt := tYes) rfl scLaw.nd rfl rfl (sw_true rfl rfl rfl (by decide +kernel)) (pi_list (pe_call GS r1 rfl T.states.m T.states.F.kp T.states.b .nil pass0 (pa_cons (pv 3) pa_nil)))
      (blkOk_by (N := nLa) (sc := defScope sLaw) (by decide +kernel)) (fun _ _ _ _ _ => pg_name (i := 11) scLaw.nd rfl (Or.inl rfl)) (fun _ _ _ _ _ => pts_nil)
      (fun _ _ _ _ _ => pe_tup (pa_cons (pe_callTy call_int1 (by rfl) T.int boot_int' (pa_cons (pe_cmpR (opEqD K rfl hu) (pv 11) (pv 4) (nomark _)) pa_nil)) (pa_cons pe_int pa_nil))))
    (pss_cons (ps_if (PW.pt (pw_or (pt_not (pt_val (pe_call GTl r3 rfl T.tells.m T.tells.F.kp T.tells.b .nil pass0 (pa_cons (pv 7) (pa_cons (pv 3) (pa_cons (pv 9) (pa_cons (pv 10) pa_nil)))))))
      (pw_or1 (pt_not (pt_val (pe_call GTl r3 rfl T.tells.m T.tells.F.kp T.tells.b .nil pass0 (pa_cons (pv 7) (pa_cons (pv 3) (pa_cons (pv 12) (pa_cons (pv 13) pa_nil)))))))))) pss_never pss_nil)
    (pss_cons (ps_if (PW.pt (pw_or (pt_not (pt_val (pe_call GFx r14 rfl T.fixes.m T.fixes.F.kp T.fixes.b .nil pass0 (pa_cons (pv 1) (pa_cons (pv 7) (pa_cons (pv 3) (pa_cons (pv 8) (pa_cons (pv 6) pa_nil))))))))
      (pw_or1 (pt_not (pt_val (pe_call GFx r14 rfl T.fixes.m T.fixes.F.kp T.fixes.b .nil pass0 (pa_cons (pv 1) (pa_cons (pv 7) (pa_cons (pv 3) (pa_cons (pv 9) (pa_cons (pv 10) pa_nil))))))))))) pss_never pss_nil)
    (pss_cons (ps_if (PW.pt (pw_or (pt_cmpR op_ne (pe_meth (pv 7) T.cl T.marked.m GM hr T.marked.b .nil pass0 (pa_cons (pv 5) pa_nil)) (pv 9) (nomark _))
      (pw_or1 (pt_cmpR op_ne (pe_meth (pv 7) T.cl T.point.m GP r3 T.point.b .nil pass0 (pa_cons (pv 4) pa_nil)) (pv 12) (nomark _))))) pss_never pss_nil)
    (pss_one (ps_ret (pe_and (pe_call GTl r3 rfl T.tells.m T.tells.F.kp T.tells.b .nil pass0 (pa_cons (pv 7) (pa_cons (pv 3) (pa_cons (pv 9) (pa_cons (pv 10) pa_nil)))))
      (pe_one (pe_call GTl r3 rfl T.tells.m T.tells.F.kp T.tells.b .nil pass0 (pa_cons (pv 7) (pa_cons (pv 3) (pa_cons (pv 12) (pa_cons (pv 13) pa_nil))))))))))))))))))))))), ?_⟩
  -- the numbers
  obtain ⟨ys, hys⟩ := cutV_ints ns none (some 200)
  refine ⟨_, rfl, _, rfl, a, _, rfl, hS, fun p hp => ⟨p, _, rfl, SqL.of upd_same, fun L hL => ?_⟩⟩
  have kp0 : Kp [] H (upd H p (.lst (cutV (ns.map V.int) none (some 200)))) := Kp.new hp _
  have hLe : upd (upd H p (.lst (cutV (ns.map V.int) none (some 200)))) L (.lst (cutV (ns.map V.int) none (some 200)).reverse) L = some (.lst (iV ys.reverse)) := by
    have e : (cutV (ns.map V.int) none (some 200)).reverse = iV ys.reverse := by
      show (cutV (iV ns) none (some 200)).reverse = ys.reverse.map V.int
      rw [hys, List.map_reverse]
    rw [e, upd_same]
  have k1 := kp0.trans (Kp.new (ex := []) hL (.lst (cutV (ns.map V.int) none (some 200)).reverse))
  generalize upd (upd H p (.lst (cutV (ns.map V.int) none (some 200)))) L (.lst (cutV (ns.map V.int) none (some 200)).reverse) = H1 at hLe k1
  have TR1 := k1.tabs TR
  have hL1 : LeftAt H1 L := ⟨_, hLe⟩
  -- the most
  refine ⟨(by show 4 ≤ sizeLine; decide), fun q hq => ?_⟩
  have kq : Kp [] H1 (upd H1 q (.lst [.int 24, .int 24, .int 24, .int 90])) := Kp.new hq _
  refine ⟨_, rfl, L, 4, rfl, hL1.kp kq (by simp), by decide, fun v H2 v0 v4 hL2 k2 => ?_⟩
  obtain ⟨j, rfl⟩ := Int.eq_ofNat_of_zero_le v0
  obtain ⟨m, hm, m1, m90⟩ := most_at j (by omega)
  have hqL : q ∉ [L] := fun z => hL1.ne hq (List.mem_singleton.mp z)
  refine ⟨q, _, _, _, rfl, rfl, SqL.of (k2.lst upd_same hqL), atI_nat hm, ?_⟩
  have TR2 := k2.tabs (kq.tabs TR1)
  -- the boxes
  refine ⟨_, rfl, _, rfl, L, m, rfl, hL2, m1, by omega, fun b bs H3 B3 h9 hpos hprm hL3 k3 => ?_⟩
  have TR3 := k3.tabs TR2
  have hpr : prod (bs.map (·.2)) ≤ 90 := Nat.le_trans hprm m90
  refine ⟨_, rfl, _, rfl, L, b, bs, rfl, hL3, B3, h9, hpos, fun sa s H4 hs4 hval hL4 k4 => ?_⟩
  have TR4 := k4.tabs TR3
  have B4 := B3.kp k4
  refine ⟨_, rfl, _, rfl, L, b, bs, rfl, hL4, B4, h9, fun ta t H5 ht5 oa ob hL5 k5 => ?_⟩
  have TR5 := k5.tabs TR4
  have B5 := B4.kp k5
  have hs5 := k5.tup _ _ hs4
  refine ⟨_, rfl, _, rfl, L, b, bs, rfl, hL5, B5, h9, hpos, by omega, fun D vals H6 hD0 hT6 hvl hL6 k6 => ?_⟩
  have TR6 := k6.tabs TR5
  have B6 := B5.kp k6
  have hs6 := k6.tup _ _ hs5
  have ht6 := k6.tup _ _ ht5
  have hDL : D ≠ L := hL5.ne hD0
  -- the store
  refine ⟨_, rfl, fun x dx hx hdx hxd => ?_⟩
  have hxd' : upd H6 dx (HO.own x) x = none := by rw [upd_ne (Ne.symm hxd)]; exact hx
  have km : Kp [] H6 (upd (upd H6 dx (.own x)) x (.ins T.C dx [])) := (Kp.new hdx _).trans (Kp.new hxd' _)
  refine ⟨x, dx, b, bs, rfl, upd_same, B6.kp km, hpos, fun lk d H7 hlk hd S keep fr => ⟨rfl, ?_⟩⟩
  have k7 : Kp [] H6 H7 := Kp.make hx hdx keep fr
  have hlk6 := km.fr _ hlk
  have hd6 := km.fr _ hd
  have hLx7 : L ∉ [lk, d] := fun z => by
    rcases List.mem_cons.mp z with z | z
    · exact hL6.ne hlk6 z.symm
    · exact hL6.ne hd6 (List.mem_singleton.mp z).symm
  have hDx7 : D ∉ [lk, d] := fun z => by
    obtain ⟨ts, q, _⟩ := hT6
    rcases List.mem_cons.mp z with z | z
    · rw [z, hlk6] at q; cases q
    · rw [List.mem_singleton.mp z, hd6] at q; cases q
  obtain ⟨e, rfl, rfl, rfl, hex⟩ : ∃ e : En, e.p = x ∧ e.b = b ∧ e.bs = bs ∧ e = ⟨x, lk, d, b, bs⟩ := ⟨⟨x, lk, d, b, bs⟩, rfl, rfl, rfl, rfl⟩
  have S7 : SAt P w T.C e H7 [] := by rw [hex]; exact S
  have hLe7 : L ∉ e.ex := by rw [hex]; exact hLx7
  have hDe7 : D ∉ e.ex := by rw [hex]; exact hDx7
  clear S hex hLx7 hDx7 hlk hd hlk6 hd6
  have TR7 := k7.tabs TR6
  have hs7 := k7.tup _ _ hs6
  have ht7 := k7.tup _ _ ht6
  have hT7 := hT6.kp k7 (by simp)
  have hL7 := hL6.kp k7 (by simp)
  have hszl : e.szs.length = e.bs.length := List.length_map _
  have hposZ : ∀ z ∈ e.szs, 1 ≤ z := hpos
  have hprZ : prod e.szs ≤ 90 := hpr
  have hvlZ : vals.length = prod e.szs := hvl
  have hstl : (sts e.szs).length = prod e.szs := sts_len hposZ
  clear hpos hpr hvl hprm
  have hcs : cst e.szs ≤ 1000 := by
    have q := cst_prod hposZ
    have q1 : (e.szs.length + 1) * prod e.szs ≤ 10 * 90 := Nat.mul_le_mul (by omega) hprZ
    omega
  have h90 : ∀ y ∈ e.szs, y ≤ 90 := fun y hy => Nat.le_trans (le_prod hposZ hy) hprZ
  have hd0 : e.szs.drop 0 = e.szs := List.drop_zero
  -- the node
  refine ⟨_, rfl, _, rfl, _, rfl, e, 0, D, vals, [], rfl, S7, hT7, hDe7, Nat.zero_le _, by rw [hd0]; exact hvlZ, by omega, by omega, by omega, by rw [hd0]; show 0 + cst e.szs < 1000000; omega, fun st8 n8 H8 E8 l8 N8 S8 k8 => ?_⟩
  rw [hd0] at l8
  have l8' : List.length st8 ≤ 1000 := Nat.le_trans l8 (by show 0 + cst e.szs ≤ 1000; omega)
  have N8' : Nd e.szs st8 0 n8 (fun s => vals.getD (idx 0 e.szs s) (0, 1)) := N8.congr fun s _ => by rw [hd0, List.drop_zero]
  have TR8 := k8.tabs TR7
  have hT8 := hT7.kp k8 hDe7
  have hL8 := hL7.kp k8 hLe7
  have LS8 : Lists e.szs vals (fun s => vals.getD (idx 0 e.szs s) (0, 1)) := fun i s hi => by
    have hlt : i < vals.length := by
      have q := (List.getElem?_eq_some_iff.mp hi).1
      omega
    show _ = some (vals.getD (idx 0 e.szs s) (0, 1))
    rw [(sts_valid hposZ hi).2, List.getD_eq_getElem?_getD, List.getElem?_eq_getElem hlt]
    rfl
  -- the mark
  obtain ⟨dx8, hp8⟩ := S8.ob
  refine ⟨_, rfl, e.p, dx8, _, rfl, hp8, flds_marked _ _ _, _, rfl, e, ta, t, st8, rfl, S8, TR8, k8.tup _ _ ht7, oa, ob, fun y hy => by have := h90 y hy; omega, h9, hcs, by omega, fun st9 n9 H9 E9 l9 N9 S9 k9 => ?_⟩
  have TR9 := k9.tabs TR8
  have k79 := k8.trans k9
  have ht9 := k79.tup _ _ ht7
  have hs9 := k79.tup _ _ hs7
  have hT9 := hT8.kp k9 hDe7
  have hL9 := hL8.kp k9 hLe7
  -- the marks
  have hpr1000 : prod e.szs ≤ 1000 := by omega
  refine ⟨_, rfl, e.b, e.bs, rfl, S9.bx, h9, hposZ, hpr1000, fun SD H10 hSD0 hSD k10 => ?_⟩
  obtain ⟨sas, hs1, hs2⟩ := id hSD
  have hsal : (sas.map V.ref).length = prod e.szs := by rw [List.length_map, hs2.1, hstl]
  have S10 := S9.kp k10 (by simp) (by simp)
  have ht10 := k10.tup _ _ ht9
  have hs10 := k10.tup _ _ hs9
  have hT10 := hT9.kp k10 (by simp)
  have hL10 := hL9.kp k10 (by simp)
  have TR10 := k10.tabs TR9
  refine ⟨SD, rfl, ⟨_, SqL.of hs1⟩, fun M1 hM1 => ?_⟩
  refine lc_list (K := K) (a := SD) (xs := sas.map V.ref) (fun i H' => Kp [] H10 H' ∧ ∃ us : List Frac, TblAt H' M1 us ∧ us.length = i ∧ ∀ (j : Nat) (s' : List Nat), j < i → (sts e.szs)[j]? = some s' → us[j]? = some (b01 (hol e.bs s' t), 1))
    ⟨Kp.new hM1 _, [], ⟨[], upd_same, FrL.nil⟩, rfl, fun j s' h => absurd h (Nat.not_lt_zero _)⟩ (fun i H' _ ⟨kp, _⟩ => SqL.of (kp.lst hs1 (by simp))) ?_ ?_
  · rintro i y H' hi ⟨kp, us, ⟨ts, u1, u2⟩, ul, uv⟩
    have hil : i < (sts e.szs).length := by
      have q := (List.getElem?_eq_some_iff.mp hi).1
      omega
    have hsi := List.getElem?_eq_getElem hil
    generalize (sts e.szs)[i] = s' at hsi
    obtain ⟨sb, ea, ha⟩ := hs2.2 i _ hsi
    obtain rfl : y = V.ref sb := by
      rw [List.getElem?_map, ea] at hi
      exact (Option.some.inj hi).symm
    have hv' := (sts_valid hposZ hsi).1
    refine ⟨rfl, tYes_of ?_⟩
    refine iteT ?_
    refine ⟨_, rfl, _, rfl, _, rfl, e.b, sb, ta, e.bs, s', t, rfl, S10.bx.kp kp, h9, kp.tup _ _ ha, by rw [hv'.1, hszl], kp.tup _ _ ht10, oa, ob, fun r H2 k2 hr2 => ?_⟩
    have u1' : H2 M1 = some (.lst (ts.map V.ref)) := k2.lst u1 (by simp)
    have kd : Kp [M1] H2 (upd H2 M1 (.lst (ts.map V.ref ++ [.ref r]))) := Kp.wrL u1' (by simp) _
    refine ⟨_, u1', by rw [List.length_map, u2.1, ul]; exact mill (by omega), (kp.trans k2).wrN hM1 u1' _, us ++ [(b01 (hol e.bs s' t), 1)], ⟨ts ++ [r], by rw [upd_same, List.map_append]; rfl, ((u2.kp k2).kp kd).snoc (hr2.kp kd)⟩, by rw [List.length_append, ul]; rfl, fun j s2 hj hs2' => ?_⟩
    by_cases hji : j < i
    · rw [List.getElem?_append_left (by omega)]
      exact uv j s2 hji hs2'
    · have ej : j = i := by omega
      subst ej
      rw [hsi] at hs2'
      cases hs2'
      rw [List.getElem?_append_right (by omega), ul, Nat.sub_self]
      rfl
  rintro H11 ⟨k11, us, hU11, ul, uv⟩
  rw [hsal] at ul uv
  show gName 10 _ [some (.ref a), some (.ref L), some (.int (m : Int)), some (.ref e.b), some (.ref sa), some (.ref ta), some (.ref D), some (.ref e.p), some (.int (n8 : Int)), some (.int (n9 : Int)), none, none, none, none] _ _
  have LSM : Lists e.szs us (fun s' => (b01 (hol e.bs s' t), 1)) := fun i s' hi => uv i s' (by
    have q := (List.getElem?_eq_some_iff.mp hi).1
    omega) hi
  have S11 := S10.kp k11 (by simp) (by simp)
  have ht11 := k11.tup _ _ ht10
  have hs11 := k11.tup _ _ hs10
  have hT11 := hT10.kp k11 (by simp)
  have hL11 := hL10.kp k11 (by simp)
  have TR11 := k11.tabs TR10
  have hM1e : M1 ∉ e.ex := S10.own hM1
  have hM1L : M1 ≠ L := hL10.ne hM1
  clear uv hs1 hs2 hsal hSD sas
  -- the spot
  obtain ⟨dx11, hp11⟩ := S11.ob
  refine ⟨_, rfl, e.p, dx11, _, rfl, hp11, flds_point _ _ _, _, rfl, e, sa, s, st9, rfl, S11, hs11, hval, fun y hy => by have := h90 y hy; omega, by omega, by omega, fun st12 n12 H12 E12 l12 N12 S12 k12 => ?_⟩
  have ht12 := k12.tup _ _ ht11
  have hs12 := k12.tup _ _ hs11
  have hT12 := hT11.kp k12 hDe7
  have hU12 := hU11.kp k12 hM1e
  have hL12 := hL11.kp k12 hLe7
  have TR12 := k12.tabs TR11
  -- the spots
  refine ⟨_, rfl, e.b, e.bs, rfl, S12.bx, h9, hposZ, hpr1000, fun SD2 H13 hSD20 hSD2 k13 => ?_⟩
  obtain ⟨sas, hs1, hs2⟩ := id hSD2
  have hsal : (sas.map V.ref).length = prod e.szs := by rw [List.length_map, hs2.1, hstl]
  have S13 := S12.kp k13 (by simp) (by simp)
  have ht13 := k13.tup _ _ ht12
  have hs13 := k13.tup _ _ hs12
  have hT13 := hT12.kp k13 (by simp)
  have hU13 := hU12.kp k13 (by simp)
  have hL13 := hL12.kp k13 (by simp)
  have TR13 := k13.tabs TR12
  refine ⟨SD2, rfl, ⟨_, SqL.of hs1⟩, fun M2 hM2 => ?_⟩
  refine lc_list (K := K) (a := SD2) (xs := sas.map V.ref) (fun i H' => Kp [] H13 H' ∧ ∃ ws : List Frac, TblAt H' M2 ws ∧ ws.length = i ∧ ∀ (j : Nat) (s' : List Nat), j < i → (sts e.szs)[j]? = some s' → ws[j]? = some (if s' = s then (1, 1) else (0, 1)))
    ⟨Kp.new hM2 _, [], ⟨[], upd_same, FrL.nil⟩, rfl, fun j s' h => absurd h (Nat.not_lt_zero _)⟩ (fun i H' _ ⟨kp, _⟩ => SqL.of (kp.lst hs1 (by simp))) ?_ ?_
  · rintro i y H' hi ⟨kp, ws, ⟨ts, u1, u2⟩, wl, wv⟩
    have hil : i < (sts e.szs).length := by
      have q := (List.getElem?_eq_some_iff.mp hi).1
      omega
    have hsi := List.getElem?_eq_getElem hil
    generalize (sts e.szs)[i] = s' at hsi
    obtain ⟨sb, ea, ha⟩ := hs2.2 i _ hsi
    obtain rfl : y = V.ref sb := by
      rw [List.getElem?_map, ea] at hi
      exact (Option.some.inj hi).symm
    refine ⟨rfl, tYes_of ?_⟩
    refine iteT ?_
    refine ⟨_, rfl, _, rfl, sD s', sD s, sD_dp (kp.tup _ _ ha), sD_dp (kp.tup _ _ hs13), sD_shaped _, sD_shaped _, .inr ⟨_, rfl, (by show 2 ≤ sizeLine; decide), fun r hr2 => ?_⟩⟩
    rw [sD_eqv]
    have k2 : Kp [] H' (upd H' r (.tup [.int (if decide (s' = s) = true then 1 else 0), .int 1])) := Kp.new hr2 _
    have hfr : FrAt (upd H' r (.tup [.int (if decide (s' = s) = true then 1 else 0), .int 1])) r (if s' = s then (1, 1) else (0, 1)) := by
      show upd H' r _ r = _
      rw [upd_same]
      by_cases hss : s' = s
      · rw [if_pos hss, if_pos (decide_eq_true hss)]
      · rw [if_neg hss, if_neg (fun z => hss (of_decide_eq_true z))]
    generalize upd H' r (.tup [.int (if decide (s' = s) = true then 1 else 0), .int 1]) = H2 at k2 hfr
    have u1' : H2 M2 = some (.lst (ts.map V.ref)) := k2.lst u1 (by simp)
    have kd : Kp [M2] H2 (upd H2 M2 (.lst (ts.map V.ref ++ [.ref r]))) := Kp.wrL u1' (by simp) _
    refine ⟨_, u1', by rw [List.length_map, u2.1, wl]; exact mill (by omega), (kp.trans k2).wrN hM2 u1' _, ws ++ [if s' = s then (1, 1) else (0, 1)], ⟨ts ++ [r], by rw [upd_same, List.map_append]; rfl, ((u2.kp k2).kp kd).snoc (hfr.kp kd)⟩, by rw [List.length_append, wl]; rfl, fun j s2 hj hs2' => ?_⟩
    by_cases hji : j < i
    · rw [List.getElem?_append_left (by omega)]
      exact wv j s2 hji hs2'
    · have ej : j = i := by omega
      subst ej
      rw [hsi] at hs2'
      cases hs2'
      rw [List.getElem?_append_right (by omega), wl, Nat.sub_self]
      rfl
  rintro H14 ⟨k14, ws, hW14, wl, wv⟩
  rw [hsal] at wl wv
  show gName 13 _ [some (.ref a), some (.ref L), some (.int (m : Int)), some (.ref e.b), some (.ref sa), some (.ref ta), some (.ref D), some (.ref e.p), some (.int (n8 : Int)), some (.int (n9 : Int)), some (.ref M1), none, some (.int (n12 : Int)), none] _ _
  have LSP : Lists e.szs ws (fun s' => if s' = s then (1, 1) else (0, 1)) := fun i s' hi => wv i s' (by
    have q := (List.getElem?_eq_some_iff.mp hi).1
    omega) hi
  have S14 := S13.kp k14 (by simp) (by simp)
  have ht14 := k14.tup _ _ ht13
  have hs14 := k14.tup _ _ hs13
  have hT14 := hT13.kp k14 (by simp)
  have hU14 := hU13.kp k14 (by simp)
  have hL14 := hL13.kp k14 (by simp)
  have TR14 := k14.tabs TR13
  have hM2e : M2 ∉ e.ex := S13.own hM2
  have hM2L : M2 ≠ L := hL13.ne hM2
  clear wv hs1 hs2 hsal hSD2 sas
  have nmem : ∀ {A : Addr}, A ≠ L → A ∉ e.ex → A ∉ L :: e.ex := fun h1 h2 z => by
    rcases List.mem_cons.mp z with z | z
    · exact h1 z
    · exact h2 z
  have hL14e : ∀ {H H' : Hp}, Kp [] H H' → LeftAt H L → LeftAt H' L := fun k h => h.kp k (by simp)
  -- what they tell
  refine ⟨_, rfl, _, rfl, _, rfl, _, rfl, e, n9, M1, us, st12, _, rfl, S14, N9.ext E12, hU14, LSM, hpr1000, h9, fun H15 k15 => ⟨_, rfl, iteF ?_⟩⟩
  have S15 := S14.kp k15 (by simp) (by simp)
  refine ⟨_, rfl, _, rfl, _, rfl, _, rfl, e, n12, M2, ws, st12, _, rfl, S15, N12, hW14.kp k15 (by simp), LSP, hpr1000, h9, fun H16 k16 => ⟨_, rfl, iteF ?_⟩⟩
  have S16 := S15.kp k16 (by simp) (by simp)
  have k46 : Kp [] H14 H16 := k15.trans k16
  have hL16 := hL14.kp k46 (by simp)
  have hT16 := hT14.kp k46 (by simp)
  have hU16 := hU14.kp k46 (by simp)
  -- held boxes
  refine ⟨_, rfl, _, rfl, _, rfl, _, rfl, _, rfl, L, e, n8, D, vals, st12, _, rfl, hL16, hLe7, S16, N8'.ext (E9.trans E12), hT16, nmem hDL hDe7, LS8, hpr1000, h9, hcs, by omega, fun st17 H17 E17 l17 S17 hL17 k17 => ⟨_, rfl, iteF ?_⟩⟩
  have hU17 := hU16.kp k17 (nmem hM1L hM1e)
  refine ⟨_, rfl, _, rfl, _, rfl, _, rfl, _, rfl, L, e, n9, M1, us, st17, _, rfl, hL17, hLe7, S17, N9.ext (E12.trans E17), hU17, nmem hM1L hM1e, LSM, hpr1000, h9, hcs, by omega, fun st18 H18 E18 l18 S18 hL18 k18 => ⟨_, rfl, iteF ?_⟩⟩
  have k68 := k17.trans k18
  have TR18 := k68.tabs (k46.tabs TR14)
  have ht18 := k68.tup _ _ (k46.tup _ _ ht14)
  have hs18 := k68.tup _ _ (k46.tup _ _ hs14)
  have hU18 := hU16.kp k68 (nmem hM1L hM1e)
  have hW18 := (hW14.kp k46 (by simp)).kp k68 (nmem hM2L hM2e)
  have E218 : Ext st12 st18 := E17.trans E18
  -- once more
  obtain ⟨dx18, hp18⟩ := S18.ob
  refine ⟨_, rfl, e.p, dx18, _, rfl, hp18, flds_marked _ _ _, _, rfl, e, ta, t, st18, rfl, S18, TR18, ht18, oa, ob, fun y hy => by have := h90 y hy; omega, h9, hcs, by omega, fun st19 n19 H19 E19 l19 N19 S19 k19 => ?_⟩
  have e19 : n19 = n9 := Nd.same S19.wf N19 (N9.ext (E12.trans (E218.trans E19))) fun _ _ => rfl
  refine ⟨_, rfl, rfl, _, rfl, ?_⟩
  refine ite2 (fun q => absurd q (ne_self e19)) (fun _ => ?_)
  obtain ⟨dx19, hp19⟩ := S19.ob
  refine ⟨_, rfl, e.p, dx19, _, rfl, hp19, flds_point _ _ _, _, rfl, e, sa, s, st19, rfl, S19, k19.tup _ _ hs18, hval, fun y hy => by have := h90 y hy; omega, by omega, by omega, fun st20 n20 H20 E20 l20 N20 S20 k20 => ?_⟩
  have e20 : n20 = n12 := Nd.same S20.wf N20 (N12.ext (E218.trans (E19.trans E20))) fun _ _ => rfl
  refine ⟨_, rfl, rfl, _, rfl, ?_⟩
  refine ite2 (fun q => absurd q (ne_self e20)) (fun _ => ?_)
  have k80 := k19.trans k20
  have hU20 := hU18.kp k80 hM1e
  have hW20 := hW18.kp k80 hM2e
  refine ⟨_, rfl, _, rfl, _, rfl, _, rfl, e, n9, M1, us, st20, _, rfl, S20, N9.ext (E12.trans (E218.trans (E19.trans E20))), hU20, LSM, hpr1000, h9, fun H21 k21 => ⟨_, rfl, iteT ?_⟩⟩
  exact ⟨_, rfl, _, rfl, _, rfl, _, rfl, e, n12, M2, ws, st20, _, rfl, S20.kp k21 (by simp) (by simp), N12.ext (E218.trans (E19.trans E20)), hW20.kp k21 (by simp), LSP, hpr1000, h9, fun H22 k22 => k H22⟩
end
end Lots
end
section
set_option Elab.async false
set_option maxRecDepth 100000
set_option maxHeartbeats 0
set_option linter.unusedSectionVars false
namespace Lots
open PySem PySem.Spec PyProof.Rows L2 NdefX LamX
/-! ### what the top has left -/
theorem all_mk {l : PySem.W.OpenLaw} {w : World} {K : PySem.W.Frag} {h : Heap} {mg : Str → Option Value} {fa C cM PT : Addr} (X : K.In h) (G : h.Ns mainGlobals mg) (hfa : mg "law" = some (.ref fa))
    {fG0 : Addr} {odG0 anG0 : Option Addr} {slG0 : Array (Option Value)} {ocG0 kVG0 dcG0 pmG0 ctG0 cdG0 : Value}
    {fG1 : Addr} {odG1 anG1 : Option Addr} {slG1 : Array (Option Value)} {ocG1 kVG1 dcG1 pmG1 ctG1 cdG1 : Value}
    {fG2 : Addr} {odG2 anG2 : Option Addr} {slG2 : Array (Option Value)} {ocG2 kVG2 dcG2 pmG2 ctG2 cdG2 : Value}
    {fG3 : Addr} {odG3 anG3 : Option Addr} {slG3 : Array (Option Value)} {ocG3 kVG3 dcG3 pmG3 ctG3 cdG3 : Value}
    {fG4 : Addr} {odG4 anG4 : Option Addr} {slG4 : Array (Option Value)} {ocG4 kVG4 dcG4 pmG4 ctG4 cdG4 : Value}
    {fG5 : Addr} {odG5 anG5 : Option Addr} {slG5 : Array (Option Value)} {ocG5 kVG5 dcG5 pmG5 ctG5 cdG5 : Value}
    {fG6 : Addr} {odG6 anG6 : Option Addr} {slG6 : Array (Option Value)} {ocG6 kVG6 dcG6 pmG6 ctG6 cdG6 : Value}
    {fG7 : Addr} {odG7 anG7 : Option Addr} {slG7 : Array (Option Value)} {ocG7 kVG7 dcG7 pmG7 ctG7 cdG7 : Value}
    {fG8 : Addr} {odG8 anG8 : Option Addr} {slG8 : Array (Option Value)} {ocG8 kVG8 dcG8 pmG8 ctG8 cdG8 : Value}
    {fG9 : Addr} {odG9 anG9 : Option Addr} {slG9 : Array (Option Value)} {ocG9 kVG9 dcG9 pmG9 ctG9 cdG9 : Value}
    {fG10 : Addr} {odG10 anG10 : Option Addr} {slG10 : Array (Option Value)} {ocG10 kVG10 dcG10 pmG10 ctG10 cdG10 : Value}
    {fG11 : Addr} {odG11 anG11 : Option Addr} {slG11 : Array (Option Value)} {ocG11 kVG11 dcG11 pmG11 ctG11 cdG11 : Value}
    {fG12 : Addr} {odG12 anG12 : Option Addr} {slG12 : Array (Option Value)} {ocG12 kVG12 dcG12 pmG12 ctG12 cdG12 : Value}
    {fG13 : Addr} {odG13 anG13 : Option Addr} {slG13 : Array (Option Value)} {ocG13 kVG13 dcG13 pmG13 ctG13 cdG13 : Value}
    {fG14 : Addr} {odG14 anG14 : Option Addr} {slG14 : Array (Option Value)} {ocG14 kVG14 dcG14 pmG14 ctG14 cdG14 : Value}
    {fG15 : Addr} {odG15 anG15 : Option Addr} {slG15 : Array (Option Value)} {ocG15 kVG15 dcG15 pmG15 ctG15 cdG15 : Value}
    {fG16 : Addr} {odG16 anG16 : Option Addr} {slG16 : Array (Option Value)} {ocG16 kVG16 dcG16 pmG16 ctG16 cdG16 : Value}
    {fG17 : Addr} {odG17 anG17 : Option Addr} {slG17 : Array (Option Value)} {ocG17 kVG17 dcG17 pmG17 ctG17 cdG17 : Value}
    {fG18 : Addr} {odG18 anG18 : Option Addr} {slG18 : Array (Option Value)} {ocG18 kVG18 dcG18 pmG18 ctG18 cdG18 : Value}
    {fG19 : Addr} {odG19 anG19 : Option Addr} {slG19 : Array (Option Value)} {ocG19 kVG19 dcG19 pmG19 ctG19 cdG19 : Value}
    {fG20 : Addr} {odG20 anG20 : Option Addr} {slG20 : Array (Option Value)} {ocG20 kVG20 dcG20 pmG20 ctG20 cdG20 : Value}
    {fG21 : Addr} {odG21 anG21 : Option Addr} {slG21 : Array (Option Value)} {ocG21 kVG21 dcG21 pmG21 ctG21 cdG21 : Value}
    {fG22 : Addr} {odG22 anG22 : Option Addr} {slG22 : Array (Option Value)} {ocG22 kVG22 dcG22 pmG22 ctG22 cdG22 : Value}
    {fG23 : Addr} {odG23 anG23 : Option Addr} {slG23 : Array (Option Value)} {ocG23 kVG23 dcG23 pmG23 ctG23 cdG23 : Value}
    {fG24 : Addr} {odG24 anG24 : Option Addr} {slG24 : Array (Option Value)} {ocG24 kVG24 dcG24 pmG24 ctG24 cdG24 : Value}
    {fG25 : Addr} {odG25 anG25 : Option Addr} {slG25 : Array (Option Value)} {ocG25 kVG25 dcG25 pmG25 ctG25 cdG25 : Value}
    {fM0 : Addr} {odM0 anM0 : Option Addr} {slM0 : Array (Option Value)} {ocM0 kVM0 dcM0 pmM0 ctM0 cdM0 : Value}
    {fM1 : Addr} {odM1 anM1 : Option Addr} {slM1 : Array (Option Value)} {ocM1 kVM1 dcM1 pmM1 ctM1 cdM1 : Value}
    {fM2 : Addr} {odM2 anM2 : Option Addr} {slM2 : Array (Option Value)} {ocM2 kVM2 dcM2 pmM2 ctM2 cdM2 : Value}
    {fM3 : Addr} {odM3 anM3 : Option Addr} {slM3 : Array (Option Value)} {ocM3 kVM3 dcM3 pmM3 ctM3 cdM3 : Value}
    {fM4 : Addr} {odM4 anM4 : Option Addr} {slM4 : Array (Option Value)} {ocM4 kVM4 dcM4 pmM4 ctM4 cdM4 : Value}
    {fM5 : Addr} {odM5 anM5 : Option Addr} {slM5 : Array (Option Value)} {ocM5 kVM5 dcM5 pmM5 ctM5 cdM5 : Value}
    {fM6 : Addr} {odM6 anM6 : Option Addr} {slM6 : Array (Option Value)} {ocM6 kVM6 dcM6 pmM6 ctM6 cdM6 : Value}
    {fM7 : Addr} {odM7 anM7 : Option Addr} {slM7 : Array (Option Value)} {ocM7 kVM7 dcM7 pmM7 ctM7 cdM7 : Value}
    {fM8 : Addr} {odM8 anM8 : Option Addr} {slM8 : Array (Option Value)} {ocM8 kVM8 dcM8 pmM8 ctM8 cdM8 : Value}
    {fM9 : Addr} {odM9 anM9 : Option Addr} {slM9 : Array (Option Value)} {ocM9 kVM9 dcM9 pmM9 ctM9 : Value}
    {fM10 : Addr} {odM10 anM10 : Option Addr} {slM10 : Array (Option Value)} {ocM10 kVM10 dcM10 pmM10 ctM10 cdM10 : Value}
    {fL : Addr} {odL anL : Option Addr} {slL : Array (Option Value)} {ocL kVL dcL pmL ctL cdL : Value}
    (aC : PySem.W.nsIn K mainGlobals "Store" = some (some (.ref C)))
    (aG0 : PySem.W.nsIn K mainGlobals "divisor" = some (some (.ref fG0))) (lG0 : K.lookup fG0 = some ⟨ocG0, odG0, .func (PySem.W.fnOf "divisor" "divisor" (defArgs sDivisor) (defBody sDivisor) (defScope sDivisor) .none kVG0 dcG0 pmG0 anG0 cdG0 ctG0), slG0⟩) (cG0 : PySem.W.codeIn K cdG0 "divisor" = true) (kG0 : PySem.W.keepIn K (.ref fG0) = true)
    (aG1 : PySem.W.nsIn K mainGlobals "fraction" = some (some (.ref fG1))) (lG1 : K.lookup fG1 = some ⟨ocG1, odG1, .func (PySem.W.fnOf "fraction" "fraction" (defArgs sFraction) (defBody sFraction) (defScope sFraction) .none kVG1 dcG1 pmG1 anG1 cdG1 ctG1), slG1⟩) (cG1 : PySem.W.codeIn K cdG1 "fraction" = true) (kG1 : PySem.W.keepIn K (.ref fG1) = true)
    (aG2 : PySem.W.nsIn K mainGlobals "start_of" = some (some (.ref fG2))) (lG2 : K.lookup fG2 = some ⟨ocG2, odG2, .func (PySem.W.fnOf "start_of" "start_of" (defArgs sStart) (defBody sStart) (defScope sStart) .none kVG2 dcG2 pmG2 anG2 cdG2 ctG2), slG2⟩) (cG2 : PySem.W.codeIn K cdG2 "start_of" = true) (kG2 : PySem.W.keepIn K (.ref fG2) = true)
    (aG3 : PySem.W.nsIn K mainGlobals "place_of" = some (some (.ref fG3))) (lG3 : K.lookup fG3 = some ⟨ocG3, odG3, .func (PySem.W.fnOf "place_of" "place_of" (defArgs sPlace) (defBody sPlace) (defScope sPlace) .none kVG3 dcG3 pmG3 anG3 cdG3 ctG3), slG3⟩) (cG3 : PySem.W.codeIn K cdG3 "place_of" = true) (kG3 : PySem.W.keepIn K (.ref fG3) = true)
    (aG4 : PySem.W.nsIn K mainGlobals "worth" = some (some (.ref fG4))) (lG4 : K.lookup fG4 = some ⟨ocG4, odG4, .func (PySem.W.fnOf "worth" "worth" (defArgs sWorth) (defBody sWorth) (defScope sWorth) .none kVG4 dcG4 pmG4 anG4 cdG4 ctG4), slG4⟩) (cG4 : PySem.W.codeIn K cdG4 "worth" = true) (kG4 : PySem.W.keepIn K (.ref fG4) = true)
    (aG5 : PySem.W.nsIn K mainGlobals "holds" = some (some (.ref fG5))) (lG5 : K.lookup fG5 = some ⟨ocG5, odG5, .func (PySem.W.fnOf "holds" "holds" (defArgs sHolds) (defBody sHolds) (defScope sHolds) .none kVG5 dcG5 pmG5 anG5 cdG5 ctG5), slG5⟩) (cG5 : PySem.W.codeIn K cdG5 "holds" = true) (kG5 : PySem.W.keepIn K (.ref fG5) = true)
    (aG6 : PySem.W.nsIn K mainGlobals "levels_of" = some (some (.ref fG6))) (lG6 : K.lookup fG6 = some ⟨ocG6, odG6, .func (PySem.W.fnOf "levels_of" "levels_of" (defArgs sLevels) (defBody sLevels) (defScope sLevels) .none kVG6 dcG6 pmG6 anG6 cdG6 ctG6), slG6⟩) (cG6 : PySem.W.codeIn K cdG6 "levels_of" = true) (kG6 : PySem.W.keepIn K (.ref fG6) = true)
    (aG7 : PySem.W.nsIn K mainGlobals "_law_take" = some (some (.ref fG7))) (lG7 : K.lookup fG7 = some ⟨ocG7, odG7, .func (PySem.W.fnOf "_law_take" "_law_take" (defArgs sTake) (defBody sTake) (defScope sTake) .none kVG7 dcG7 pmG7 anG7 cdG7 ctG7), slG7⟩) (cG7 : PySem.W.codeIn K cdG7 "_law_take" = true) (kG7 : PySem.W.keepIn K (.ref fG7) = true)
    (aG8 : PySem.W.nsIn K mainGlobals "_law_word" = some (some (.ref fG8))) (lG8 : K.lookup fG8 = some ⟨ocG8, odG8, .func (PySem.W.fnOf "_law_word" "_law_word" (defArgs sWord) (defBody sWord) (defScope sWord) .none kVG8 dcG8 pmG8 anG8 cdG8 ctG8), slG8⟩) (cG8 : PySem.W.codeIn K cdG8 "_law_word" = true) (kG8 : PySem.W.keepIn K (.ref fG8) = true)
    (aG9 : PySem.W.nsIn K mainGlobals "_law_names" = some (some (.ref fG9))) (lG9 : K.lookup fG9 = some ⟨ocG9, odG9, .func (PySem.W.fnOf "_law_names" "_law_names" (defArgs sNames) (defBody sNames) (defScope sNames) .none kVG9 dcG9 pmG9 anG9 cdG9 ctG9), slG9⟩) (cG9 : PySem.W.codeIn K cdG9 "_law_names" = true) (kG9 : PySem.W.keepIn K (.ref fG9) = true)
    (aG10 : PySem.W.nsIn K mainGlobals "_law_boxes" = some (some (.ref fG10))) (lG10 : K.lookup fG10 = some ⟨ocG10, odG10, .func (PySem.W.fnOf "_law_boxes" "_law_boxes" (defArgs sBoxes) (defBody sBoxes) (defScope sBoxes) .none kVG10 dcG10 pmG10 anG10 cdG10 ctG10), slG10⟩) (cG10 : PySem.W.codeIn K cdG10 "_law_boxes" = true) (kG10 : PySem.W.keepIn K (.ref fG10) = true)
    (aG11 : PySem.W.nsIn K mainGlobals "_law_state" = some (some (.ref fG11))) (lG11 : K.lookup fG11 = some ⟨ocG11, odG11, .func (PySem.W.fnOf "_law_state" "_law_state" (defArgs sState) (defBody sState) (defScope sState) .none kVG11 dcG11 pmG11 anG11 cdG11 ctG11), slG11⟩) (cG11 : PySem.W.codeIn K cdG11 "_law_state" = true) (kG11 : PySem.W.keepIn K (.ref fG11) = true)
    (aG12 : PySem.W.nsIn K mainGlobals "_law_operand" = some (some (.ref fG12))) (lG12 : K.lookup fG12 = some ⟨ocG12, odG12, .func (PySem.W.fnOf "_law_operand" "_law_operand" (defArgs sOperand) (defBody sOperand) (defScope sOperand) .none kVG12 dcG12 pmG12 anG12 cdG12 ctG12), slG12⟩) (cG12 : PySem.W.codeIn K cdG12 "_law_operand" = true) (kG12 : PySem.W.keepIn K (.ref fG12) = true)
    (aG13 : PySem.W.nsIn K mainGlobals "_law_test" = some (some (.ref fG13))) (lG13 : K.lookup fG13 = some ⟨ocG13, odG13, .func (PySem.W.fnOf "_law_test" "_law_test" (defArgs sTest) (defBody sTest) (defScope sTest) .none kVG13 dcG13 pmG13 anG13 cdG13 ctG13), slG13⟩) (cG13 : PySem.W.codeIn K cdG13 "_law_test" = true) (kG13 : PySem.W.keepIn K (.ref fG13) = true)
    (aG14 : PySem.W.nsIn K mainGlobals "_law_low" = some (some (.ref fG14))) (lG14 : K.lookup fG14 = some ⟨ocG14, odG14, .func (PySem.W.fnOf "_law_low" "_law_low" (defArgs sLow) (defBody sLow) (defScope sLow) .none kVG14 dcG14 pmG14 anG14 cdG14 ctG14), slG14⟩) (cG14 : PySem.W.codeIn K cdG14 "_law_low" = true) (kG14 : PySem.W.keepIn K (.ref fG14) = true)
    (aG15 : PySem.W.nsIn K mainGlobals "_law_ratio" = some (some (.ref fG15))) (lG15 : K.lookup fG15 = some ⟨ocG15, odG15, .func (PySem.W.fnOf "_law_ratio" "_law_ratio" (defArgs sRatio) (defBody sRatio) (defScope sRatio) .none kVG15 dcG15 pmG15 anG15 cdG15 ctG15), slG15⟩) (cG15 : PySem.W.codeIn K cdG15 "_law_ratio" = true) (kG15 : PySem.W.keepIn K (.ref fG15) = true)
    (aG16 : PySem.W.nsIn K mainGlobals "_law_same" = some (some (.ref fG16))) (lG16 : K.lookup fG16 = some ⟨ocG16, odG16, .func (PySem.W.fnOf "_law_same" "_law_same" (defArgs sSame) (defBody sSame) (defScope sSame) .none kVG16 dcG16 pmG16 anG16 cdG16 ctG16), slG16⟩) (cG16 : PySem.W.codeIn K cdG16 "_law_same" = true) (kG16 : PySem.W.keepIn K (.ref fG16) = true)
    (aG17 : PySem.W.nsIn K mainGlobals "_law_whole" = some (some (.ref fG17))) (lG17 : K.lookup fG17 = some ⟨ocG17, odG17, .func (PySem.W.fnOf "_law_whole" "_law_whole" (defArgs sWhole) (defBody sWhole) (defScope sWhole) .none kVG17 dcG17 pmG17 anG17 cdG17 ctG17), slG17⟩) (cG17 : PySem.W.codeIn K cdG17 "_law_whole" = true) (kG17 : PySem.W.keepIn K (.ref fG17) = true)
    (aG18 : PySem.W.nsIn K mainGlobals "_law_states" = some (some (.ref fG18))) (lG18 : K.lookup fG18 = some ⟨ocG18, odG18, .func (PySem.W.fnOf "_law_states" "_law_states" (defArgs sStates) (defBody sStates) (defScope sStates) .none kVG18 dcG18 pmG18 anG18 cdG18 ctG18), slG18⟩) (cG18 : PySem.W.codeIn K cdG18 "_law_states" = true) (kG18 : PySem.W.keepIn K (.ref fG18) = true)
    (aG19 : PySem.W.nsIn K mainGlobals "_law_table" = some (some (.ref fG19))) (lG19 : K.lookup fG19 = some ⟨ocG19, odG19, .func (PySem.W.fnOf "_law_table" "_law_table" (defArgs sTable) (defBody sTable) (defScope sTable) .none kVG19 dcG19 pmG19 anG19 cdG19 ctG19), slG19⟩) (cG19 : PySem.W.codeIn K cdG19 "_law_table" = true) (kG19 : PySem.W.keepIn K (.ref fG19) = true)
    (aG20 : PySem.W.nsIn K mainGlobals "_law_node" = some (some (.ref fG20))) (lG20 : K.lookup fG20 = some ⟨ocG20, odG20, .func (PySem.W.fnOf "_law_node" "_law_node" (defArgs sNode) (defBody sNode) (defScope sNode) .none kVG20 dcG20 pmG20 anG20 cdG20 ctG20), slG20⟩) (cG20 : PySem.W.codeIn K cdG20 "_law_node" = true) (kG20 : PySem.W.keepIn K (.ref fG20) = true)
    (aG21 : PySem.W.nsIn K mainGlobals "_law_tells" = some (some (.ref fG21))) (lG21 : K.lookup fG21 = some ⟨ocG21, odG21, .func (PySem.W.fnOf "_law_tells" "_law_tells" (defArgs sTells) (defBody sTells) (defScope sTells) .none kVG21 dcG21 pmG21 anG21 cdG21 ctG21), slG21⟩) (cG21 : PySem.W.codeIn K cdG21 "_law_tells" = true) (kG21 : PySem.W.keepIn K (.ref fG21) = true)
    (aG22 : PySem.W.nsIn K mainGlobals "_law_worth" = some (some (.ref fG22))) (lG22 : K.lookup fG22 = some ⟨ocG22, odG22, .func (PySem.W.fnOf "_law_worth" "_law_worth" (defArgs sLWorth) (defBody sLWorth) (defScope sLWorth) .none kVG22 dcG22 pmG22 anG22 cdG22 ctG22), slG22⟩) (cG22 : PySem.W.codeIn K cdG22 "_law_worth" = true) (kG22 : PySem.W.keepIn K (.ref fG22) = true)
    (aG23 : PySem.W.nsIn K mainGlobals "_law_mark" = some (some (.ref fG23))) (lG23 : K.lookup fG23 = some ⟨ocG23, odG23, .func (PySem.W.fnOf "_law_mark" "_law_mark" (defArgs sMark) (defBody sMark) (defScope sMark) .none kVG23 dcG23 pmG23 anG23 cdG23 ctG23), slG23⟩) (cG23 : PySem.W.codeIn K cdG23 "_law_mark" = true) (kG23 : PySem.W.keepIn K (.ref fG23) = true)
    (aG24 : PySem.W.nsIn K mainGlobals "_law_held" = some (some (.ref fG24))) (lG24 : K.lookup fG24 = some ⟨ocG24, odG24, .func (PySem.W.fnOf "_law_held" "_law_held" (defArgs sHeld) (defBody sHeld) (defScope sHeld) .none kVG24 dcG24 pmG24 anG24 cdG24 ctG24), slG24⟩) (cG24 : PySem.W.codeIn K cdG24 "_law_held" = true) (kG24 : PySem.W.keepIn K (.ref fG24) = true)
    (aG25 : PySem.W.nsIn K mainGlobals "_law_fixes" = some (some (.ref fG25))) (lG25 : K.lookup fG25 = some ⟨ocG25, odG25, .func (PySem.W.fnOf "_law_fixes" "_law_fixes" (defArgs sFixes) (defBody sFixes) (defScope sFixes) .none kVG25 dcG25 pmG25 anG25 cdG25 ctG25), slG25⟩) (cG25 : PySem.W.codeIn K cdG25 "_law_fixes" = true) (kG25 : PySem.W.keepIn K (.ref fG25) = true)
    (aM0 : PySem.W.findIn K (.ref C) "__init__" = some (some (.ref fM0))) (iM0 : PySem.W.isFn K (.ref fM0) = true) (lM0 : K.lookup fM0 = some ⟨ocM0, odM0, .func (PySem.W.fnOf "__init__" "Store.__init__" (defArgs sInit) (defBody sInit) (defScope sInit) .none kVM0 dcM0 pmM0 anM0 cdM0 ctM0), slM0⟩) (cM0 : PySem.W.codeIn K cdM0 "Store.__init__" = true) (kM0 : PySem.W.keepIn K (.ref fM0) = true)
    (aM1 : PySem.W.findIn K (.ref C) "node_of" = some (some (.ref fM1))) (iM1 : PySem.W.isFn K (.ref fM1) = true) (lM1 : K.lookup fM1 = some ⟨ocM1, odM1, .func (PySem.W.fnOf "node_of" "Store.node_of" (defArgs sNodeOf) (defBody sNodeOf) (defScope sNodeOf) .none kVM1 dcM1 pmM1 anM1 cdM1 ctM1), slM1⟩) (cM1 : PySem.W.codeIn K cdM1 "Store.node_of" = true) (kM1 : PySem.W.keepIn K (.ref fM1) = true)
    (aM2 : PySem.W.findIn K (.ref C) "leaf" = some (some (.ref fM2))) (iM2 : PySem.W.isFn K (.ref fM2) = true) (lM2 : K.lookup fM2 = some ⟨ocM2, odM2, .func (PySem.W.fnOf "leaf" "Store.leaf" (defArgs sLeaf) (defBody sLeaf) (defScope sLeaf) .none kVM2 dcM2 pmM2 anM2 cdM2 ctM2), slM2⟩) (cM2 : PySem.W.codeIn K cdM2 "Store.leaf" = true) (kM2 : PySem.W.keepIn K (.ref fM2) = true)
    (aM3 : PySem.W.findIn K (.ref C) "fork" = some (some (.ref fM3))) (iM3 : PySem.W.isFn K (.ref fM3) = true) (lM3 : K.lookup fM3 = some ⟨ocM3, odM3, .func (PySem.W.fnOf "fork" "Store.fork" (defArgs sFork) (defBody sFork) (defScope sFork) .none kVM3 dcM3 pmM3 anM3 cdM3 ctM3), slM3⟩) (cM3 : PySem.W.codeIn K cdM3 "Store.fork" = true) (kM3 : PySem.W.keepIn K (.ref fM3) = true)
    (aM4 : PySem.W.findIn K (.ref C) "value_at" = some (some (.ref fM4))) (iM4 : PySem.W.isFn K (.ref fM4) = true) (lM4 : K.lookup fM4 = some ⟨ocM4, odM4, .func (PySem.W.fnOf "value_at" "Store.value_at" (defArgs sValueAt) (defBody sValueAt) (defScope sValueAt) .none kVM4 dcM4 pmM4 anM4 cdM4 ctM4), slM4⟩) (cM4 : PySem.W.codeIn K cdM4 "Store.value_at" = true) (kM4 : PySem.W.keepIn K (.ref fM4) = true)
    (aM5 : PySem.W.findIn K (.ref C) "level_of" = some (some (.ref fM5))) (iM5 : PySem.W.isFn K (.ref fM5) = true) (lM5 : K.lookup fM5 = some ⟨ocM5, odM5, .func (PySem.W.fnOf "level_of" "Store.level_of" (defArgs sLevelOf) (defBody sLevelOf) (defScope sLevelOf) .none kVM5 dcM5 pmM5 anM5 cdM5 ctM5), slM5⟩) (cM5 : PySem.W.codeIn K cdM5 "Store.level_of" = true) (kM5 : PySem.W.keepIn K (.ref fM5) = true)
    (aM6 : PySem.W.findIn K (.ref C) "fixed" = some (some (.ref fM6))) (iM6 : PySem.W.isFn K (.ref fM6) = true) (lM6 : K.lookup fM6 = some ⟨ocM6, odM6, .func (PySem.W.fnOf "fixed" "Store.fixed" (defArgs sFixed) (defBody sFixed) (defScope sFixed) .none kVM6 dcM6 pmM6 anM6 cdM6 ctM6), slM6⟩) (cM6 : PySem.W.codeIn K cdM6 "Store.fixed" = true) (kM6 : PySem.W.keepIn K (.ref fM6) = true)
    (aM7 : PySem.W.findIn K (.ref C) "spread" = some (some (.ref fM7))) (iM7 : PySem.W.isFn K (.ref fM7) = true) (lM7 : K.lookup fM7 = some ⟨ocM7, odM7, .func (PySem.W.fnOf "spread" "Store.spread" (defArgs sSpread) (defBody sSpread) (defScope sSpread) .none kVM7 dcM7 pmM7 anM7 cdM7 ctM7), slM7⟩) (cM7 : PySem.W.codeIn K cdM7 "Store.spread" = true) (kM7 : PySem.W.keepIn K (.ref fM7) = true)
    (aM8 : PySem.W.findIn K (.ref C) "by_operands" = some (some (.ref fM8))) (iM8 : PySem.W.isFn K (.ref fM8) = true) (lM8 : K.lookup fM8 = some ⟨ocM8, odM8, .func (PySem.W.fnOf "by_operands" "Store.by_operands" (defArgs sByOps) (defBody sByOps) (defScope sByOps) .none kVM8 dcM8 pmM8 anM8 cdM8 ctM8), slM8⟩) (cM8 : PySem.W.codeIn K cdM8 "Store.by_operands" = true) (kM8 : PySem.W.keepIn K (.ref fM8) = true)
    (aM9 : PySem.W.findIn K (.ref C) "marked" = some (some (.ref fM9))) (iM9 : PySem.W.isFn K (.ref fM9) = true) (lM9 : K.lookup fM9 = some ⟨ocM9, odM9, .func (PySem.W.fnOf "marked" "Store.marked" (defArgs sMarked) (defBody sMarked) (defScope sMarked) .none kVM9 dcM9 pmM9 anM9 (.ref cM) ctM9), slM9⟩) (cM9 : PySem.W.codeIn K (.ref cM) "Store.marked" = true) (kM9 : PySem.W.keepIn K (.ref fM9) = true)
    (aM10 : PySem.W.findIn K (.ref C) "point" = some (some (.ref fM10))) (iM10 : PySem.W.isFn K (.ref fM10) = true) (lM10 : K.lookup fM10 = some ⟨ocM10, odM10, .func (PySem.W.fnOf "point" "Store.point" (defArgs sPoint) (defBody sPoint) (defScope sPoint) .none kVM10 dcM10 pmM10 anM10 cdM10 ctM10), slM10⟩) (cM10 : PySem.W.codeIn K cdM10 "Store.point" = true) (kM10 : PySem.W.keepIn K (.ref fM10) = true)
    (aL : PySem.W.nsIn K mainGlobals "law" = some (some (.ref fL))) (lL : K.lookup fL = some ⟨ocL, odL, .func (PySem.W.fnOf "law" "law" (defArgs sLaw) (defBody sLaw) (defScope sLaw) .none kVL dcL pmL anL cdL ctL), slL⟩) (cL : PySem.W.codeIn K cdL "law" = true) (kL : PySem.W.keepIn K (.ref fL) = true)
    (pg : PySem.W.plainGet K C Str.empty = true) (hd : PySem.W.hasDictIn K C = true) (po : PySem.W.plainOver K C = true) (sa : PySem.W.findIn K (.ref C) "__setattr__" = some (some (.builtin "object.__setattr__"))) (mk : PySem.W.makesIn K C = true) (kc : PySem.W.keepIn K (.ref C) = true)
    (nB : PySem.W.findIn K (.ref C) "boxes" = some none) (nK : PySem.W.findIn K (.ref C) "kept" = some none) (nP : PySem.W.findIn K (.ref C) "places" = some none)
    (z0 : PySem.W.nsIn K mainGlobals "len" = some none) (z1 : PySem.W.nsIn K mainGlobals "set" = some none) (z2 : PySem.W.nsIn K mainGlobals "tuple" = some none) (z3 : PySem.W.nsIn K mainGlobals "range" = some none) (z4 : PySem.W.nsIn K mainGlobals "abs" = some none) (z5 : PySem.W.nsIn K mainGlobals "isinstance" = some none) (z6 : PySem.W.nsIn K mainGlobals "str" = some none) (z7 : PySem.W.nsIn K mainGlobals "int" = some none) (z8 : PySem.W.nsIn K mainGlobals "bool" = some none) (z9 : PySem.W.nsIn K mainGlobals "list" = some none) (z10 : PySem.W.nsIn K mainGlobals "all" = some none) (z11 : PySem.W.nsIn K mainGlobals "min" = some none) (z12 : PySem.W.nsIn K mainGlobals "reversed" = some none)
    (hT : h.get? PT = some (PySem.W.tabObj #[])) (nT : K.lookup PT = none) (hC : PySem.W.codeHdIn K cM PT = true)
    : LawAtS l w K CX0 18 63 "_law_script" mg fa h := by
  have e := hfa.symm.trans (PySem.W.mg_of X G aL)
  cases e
  have FL := fun_mk (st := sLaw) lL cL kL
  refine ⟨_, [(cM, PT)], @spLaw ⟨PT⟩ K, fun p hp => ?_, fun p hp => ?_, fun p hp => ?_, fun s v => BindsTo.of_eq rfl, fun H a ns _ _ hH hS => ⟨a, ns, rfl, hS, fun p hp => ?_, fun _ => rfl⟩, fun base _ _ TB => @ok_law ⟨PT⟩ l.prog w K mg base {
    C := C, cl := ⟨pg, hd, po, sa⟩, nB := nB, nK := nK, nP := nP, mgC := PySem.W.mg_of X G aC, mks := mk, kc := kc,
    len := PySem.W.mg_none_of X G z0, set := PySem.W.mg_none_of X G z1, tuple := PySem.W.mg_none_of X G z2, range := PySem.W.mg_none_of X G z3, abs := PySem.W.mg_none_of X G z4, isi := PySem.W.mg_none_of X G z5, str := PySem.W.mg_none_of X G z6, int := PySem.W.mg_none_of X G z7, bool := PySem.W.mg_none_of X G z8, list := PySem.W.mg_none_of X G z9, all := PySem.W.mg_none_of X G z10, min := PySem.W.mg_none_of X G z11, rev := PySem.W.mg_none_of X G z12
    divisor := ⟨fG0, _, fun_mk (st := sDivisor) lG0 cG0 kG0, (fun_mk (st := sDivisor) lG0 cG0 kG0).binds (ps := ["one", "other"]) (fun _ _ _ _ _ _ us hl => match us, hl with | [_, _], _ => rfl), PySem.W.mg_of X G aG0⟩
    fraction := ⟨fG1, _, fun_mk (st := sFraction) lG1 cG1 kG1, (fun_mk (st := sFraction) lG1 cG1 kG1).binds (ps := ["top", "bottom"]) (fun _ _ _ _ _ _ us hl => match us, hl with | [_, _], _ => rfl), PySem.W.mg_of X G aG1⟩
    start := ⟨fG2, _, fun_mk (st := sStart) lG2 cG2 kG2, (fun_mk (st := sStart) lG2 cG2 kG2).binds (ps := ["boxes"]) (fun _ _ _ _ _ _ us hl => match us, hl with | [_], _ => rfl), PySem.W.mg_of X G aG2⟩
    place := ⟨fG3, _, fun_mk (st := sPlace) lG3 cG3 kG3, (fun_mk (st := sPlace) lG3 cG3 kG3).binds (ps := ["boxes", "name"]) (fun _ _ _ _ _ _ us hl => match us, hl with | [_, _], _ => rfl), PySem.W.mg_of X G aG3⟩
    worth := ⟨fG4, _, fun_mk (st := sWorth) lG4 cG4 kG4, (fun_mk (st := sWorth) lG4 cG4 kG4).binds (ps := ["boxes", "state", "operand"]) (fun _ _ _ _ _ _ us hl => match us, hl with | [_, _, _], _ => rfl), PySem.W.mg_of X G aG4⟩
    holds := ⟨fG5, _, fun_mk (st := sHolds) lG5 cG5 kG5, (fun_mk (st := sHolds) lG5 cG5 kG5).binds (ps := ["boxes", "state", "test"]) (fun _ _ _ _ _ _ us hl => match us, hl with | [_, _, _], _ => rfl), PySem.W.mg_of X G aG5⟩
    levels := ⟨fG6, _, fun_mk (st := sLevels) lG6 cG6 kG6, (fun_mk (st := sLevels) lG6 cG6 kG6).binds (ps := ["boxes", "operands"]) (fun _ _ _ _ _ _ us hl => match us, hl with | [_, _], _ => rfl), PySem.W.mg_of X G aG6⟩
    take := ⟨fG7, _, fun_mk (st := sTake) lG7 cG7 kG7, (fun_mk (st := sTake) lG7 cG7 kG7).binds (ps := ["_law_left", "_law_many"]) (fun _ _ _ _ _ _ us hl => match us, hl with | [_, _], _ => rfl), PySem.W.mg_of X G aG7⟩
    word := ⟨fG8, _, fun_mk (st := sWord) lG8 cG8 kG8, (fun_mk (st := sWord) lG8 cG8 kG8).binds (ps := ["_law_number", "_law_size"]) (fun _ _ _ _ _ _ us hl => match us, hl with | [_, _], _ => rfl), PySem.W.mg_of X G aG8⟩
    names := ⟨fG9, _, fun_mk (st := sNames) lG9 cG9 kG9, (fun_mk (st := sNames) lG9 cG9 kG9).binds (ps := ["_law_left", "_law_many"]) (fun _ _ _ _ _ _ us hl => match us, hl with | [_, _], _ => rfl), PySem.W.mg_of X G aG9⟩
    lboxes := ⟨fG10, _, fun_mk (st := sBoxes) lG10 cG10 kG10, (fun_mk (st := sBoxes) lG10 cG10 kG10).binds (ps := ["_law_left", "_law_most"]) (fun _ _ _ _ _ _ us hl => match us, hl with | [_, _], _ => rfl), PySem.W.mg_of X G aG10⟩
    state := ⟨fG11, _, fun_mk (st := sState) lG11 cG11 kG11, (fun_mk (st := sState) lG11 cG11 kG11).binds (ps := ["_law_left", "_law_boxes_here"]) (fun _ _ _ _ _ _ us hl => match us, hl with | [_, _], _ => rfl), PySem.W.mg_of X G aG11⟩
    operand := ⟨fG12, _, fun_mk (st := sOperand) lG12 cG12 kG12, (fun_mk (st := sOperand) lG12 cG12 kG12).binds (ps := ["_law_left", "_law_boxes_here"]) (fun _ _ _ _ _ _ us hl => match us, hl with | [_, _], _ => rfl), PySem.W.mg_of X G aG12⟩
    test := ⟨fG13, _, fun_mk (st := sTest) lG13 cG13 kG13, (fun_mk (st := sTest) lG13 cG13 kG13).binds (ps := ["_law_left", "_law_boxes_here"]) (fun _ _ _ _ _ _ us hl => match us, hl with | [_, _], _ => rfl), PySem.W.mg_of X G aG13⟩
    low := ⟨fG14, _, fun_mk (st := sLow) lG14 cG14 kG14, (fun_mk (st := sLow) lG14 cG14 kG14).binds (ps := ["_law_top", "_law_bottom"]) (fun _ _ _ _ _ _ us hl => match us, hl with | [_, _], _ => rfl), PySem.W.mg_of X G aG14⟩
    ratio := ⟨fG15, _, fun_mk (st := sRatio) lG15 cG15 kG15, (fun_mk (st := sRatio) lG15 cG15 kG15).binds (ps := ["_law_left"]) (fun _ _ _ _ _ _ us hl => match us, hl with | [_], _ => rfl), PySem.W.mg_of X G aG15⟩
    same := ⟨fG16, _, fun_mk (st := sSame) lG16 cG16 kG16, (fun_mk (st := sSame) lG16 cG16 kG16).binds (ps := ["_law_found", "_law_due"]) (fun _ _ _ _ _ _ us hl => match us, hl with | [_, _], _ => rfl), PySem.W.mg_of X G aG16⟩
    whole := ⟨fG17, _, fun_mk (st := sWhole) lG17 cG17 kG17, (fun_mk (st := sWhole) lG17 cG17 kG17).binds (ps := ["_law_found"]) (fun _ _ _ _ _ _ us hl => match us, hl with | [_], _ => rfl), PySem.W.mg_of X G aG17⟩
    states := ⟨fG18, _, fun_mk (st := sStates) lG18 cG18 kG18, (fun_mk (st := sStates) lG18 cG18 kG18).binds (ps := ["_law_boxes_here"]) (fun _ _ _ _ _ _ us hl => match us, hl with | [_], _ => rfl), PySem.W.mg_of X G aG18⟩
    table := ⟨fG19, _, fun_mk (st := sTable) lG19 cG19 kG19, (fun_mk (st := sTable) lG19 cG19 kG19).binds (ps := ["_law_left", "_law_boxes_here"]) (fun _ _ _ _ _ _ us hl => match us, hl with | [_, _], _ => rfl), PySem.W.mg_of X G aG19⟩
    node := ⟨fG20, _, fun_mk (st := sNode) lG20 cG20 kG20, (fun_mk (st := sNode) lG20 cG20 kG20).binds (ps := ["_law_store", "_law_boxes_here", "_law_level", "_law_table_here"]) (fun _ _ _ _ _ _ us hl => match us, hl with | [_, _, _, _], _ => rfl), PySem.W.mg_of X G aG20⟩
    tells := ⟨fG21, _, fun_mk (st := sTells) lG21 cG21 kG21, (fun_mk (st := sTells) lG21 cG21 kG21).binds (ps := ["_law_store", "_law_boxes_here", "_law_node_here", "_law_table_here"]) (fun _ _ _ _ _ _ us hl => match us, hl with | [_, _, _, _], _ => rfl), PySem.W.mg_of X G aG21⟩
    lworth := ⟨fG22, _, fun_mk (st := sLWorth) lG22 cG22 kG22, (fun_mk (st := sLWorth) lG22 cG22 kG22).binds (ps := ["_law_boxes_here", "_law_state_here", "_law_operand_here"]) (fun _ _ _ _ _ _ us hl => match us, hl with | [_, _, _], _ => rfl), PySem.W.mg_of X G aG22⟩
    mark := ⟨fG23, _, fun_mk (st := sMark) lG23 cG23 kG23, (fun_mk (st := sMark) lG23 cG23 kG23).binds (ps := ["_law_boxes_here", "_law_state_here", "_law_test_here"]) (fun _ _ _ _ _ _ us hl => match us, hl with | [_, _, _], _ => rfl), PySem.W.mg_of X G aG23⟩
    held := ⟨fG24, _, fun_mk (st := sHeld) lG24 cG24 kG24, (fun_mk (st := sHeld) lG24 cG24 kG24).binds (ps := ["_law_boxes_here", "_law_table_here", "_law_level", "_law_number"]) (fun _ _ _ _ _ _ us hl => match us, hl with | [_, _, _, _], _ => rfl), PySem.W.mg_of X G aG24⟩
    fixes := ⟨fG25, _, fun_mk (st := sFixes) lG25 cG25 kG25, (fun_mk (st := sFixes) lG25 cG25 kG25).binds (ps := ["_law_left", "_law_store", "_law_boxes_here", "_law_node_here", "_law_table_here"]) (fun _ _ _ _ _ _ us hl => match us, hl with | [_, _, _, _, _], _ => rfl), PySem.W.mg_of X G aG25⟩
    init := ⟨fM0, _, fun_mk (st := sInit) lM0 cM0 kM0, (fun_mk (st := sInit) lM0 cM0 kM0).binds (ps := ["self", "boxes"]) (fun _ _ _ _ _ _ us hl => match us, hl with | [_, _], _ => rfl), ⟨aM0, iM0, kM0⟩⟩
    node_of := ⟨fM1, _, fun_mk (st := sNodeOf) lM1 cM1 kM1, (fun_mk (st := sNodeOf) lM1 cM1 kM1).binds (ps := ["self", "what"]) (fun _ _ _ _ _ _ us hl => match us, hl with | [_, _], _ => rfl), ⟨aM1, iM1, kM1⟩⟩
    leaf := ⟨fM2, _, fun_mk (st := sLeaf) lM2 cM2 kM2, (fun_mk (st := sLeaf) lM2 cM2 kM2).binds (ps := ["self", "one"]) (fun _ _ _ _ _ _ us hl => match us, hl with | [_, _], _ => rfl), ⟨aM2, iM2, kM2⟩⟩
    fork := ⟨fM3, _, fun_mk (st := sFork) lM3 cM3 kM3, (fun_mk (st := sFork) lM3 cM3 kM3).binds (ps := ["self", "level", "kids"]) (fun _ _ _ _ _ _ us hl => match us, hl with | [_, _, _], _ => rfl), ⟨aM3, iM3, kM3⟩⟩
    value_at := ⟨fM4, _, fun_mk (st := sValueAt) lM4 cM4 kM4, (fun_mk (st := sValueAt) lM4 cM4 kM4).binds (ps := ["self", "node", "state"]) (fun _ _ _ _ _ _ us hl => match us, hl with | [_, _, _], _ => rfl), ⟨aM4, iM4, kM4⟩⟩
    level_of := ⟨fM5, _, fun_mk (st := sLevelOf) lM5 cM5 kM5, (fun_mk (st := sLevelOf) lM5 cM5 kM5).binds (ps := ["self", "node"]) (fun _ _ _ _ _ _ us hl => match us, hl with | [_, _], _ => rfl), ⟨aM5, iM5, kM5⟩⟩
    fixed := ⟨fM6, _, fun_mk (st := sFixed) lM6 cM6 kM6, (fun_mk (st := sFixed) lM6 cM6 kM6).binds (ps := ["self", "node", "level", "number"]) (fun _ _ _ _ _ _ us hl => match us, hl with | [_, _, _, _], _ => rfl), ⟨aM6, iM6, kM6⟩⟩
    spread := ⟨fM7, _, fun_mk (st := sSpread) lM7 cM7 kM7, (fun_mk (st := sSpread) lM7 cM7 kM7).binds (ps := ["self", "rule", "levels", "state"]) (fun _ _ _ _ _ _ us hl => match us, hl with | [_, _, _, _], _ => rfl), ⟨aM7, iM7, kM7⟩⟩
    byops := ⟨fM8, _, fun_mk (st := sByOps) lM8 cM8 kM8, (fun_mk (st := sByOps) lM8 cM8 kM8).binds (ps := ["self", "rule", "operands"]) (fun _ _ _ _ _ _ us hl => match us, hl with | [_, _, _], _ => rfl), ⟨aM8, iM8, kM8⟩⟩
    marked := ⟨fM9, _, fun_mk (st := sMarked) lM9 cM9 kM9, (fun_mk (st := sMarked) lM9 cM9 kM9).binds (ps := ["self", "test"]) (fun _ _ _ _ _ _ us hl => match us, hl with | [_, _], _ => rfl), ⟨aM9, iM9, kM9⟩⟩
    mcode := cM
    markedC := ⟨⟨ocM9, odM9, kVM9, dcM9, pmM9, anM9, ctM9, slM9, rfl, lM9, cM9⟩⟩
    point := ⟨fM10, _, fun_mk (st := sPoint) lM10 cM10 kM10, (fun_mk (st := sPoint) lM10 cM10 kM10).binds (ps := ["self", "state"]) (fun _ _ _ _ _ _ us hl => match us, hl with | [_, _], _ => rfl), ⟨aM10, iM10, kM10⟩⟩
    } (TB (cM, PT) (List.mem_singleton.mpr rfl)) _ _ FL⟩
  · rw [List.mem_singleton.mp hp]; exact hT
  · rw [List.mem_singleton.mp hp]; exact nT
  · rw [List.mem_singleton.mp hp]; exact PySem.W.codeHd_of_K X hC
  · rw [List.mem_singleton.mp hp]; exact TabN.nil (hH (cM, PT) (List.mem_singleton.mpr rfl))
end Lots
end
section
set_option Elab.async false
set_option maxRecDepth 100000
set_option maxHeartbeats 0
open PySem PySem.W PyProof.Rows
theorem PySem.Challenge.cw_lots_k42_fixed_marked_point_holds : PySem.Challenge.rw_lots_k42_fixed_marked_point.Holds := by
  w_on; o_law; k_head; (case hw => w_witness2)
  k_fill
  refine LamX.walk_ofTs (l := PySem.Challenge.rw_lots_k42_fixed_marked_point) (n := 63) (k := 18) (x := "_law_script") (CX := fun _ => L2.CX0) rfl (by decide) rfl ⟨rfl, by decide, by decide⟩ (fun w h Y => PySem.W.km_in_of Y) ?F (fun _ _ _ _ _ z => z)
  case F =>
    intro w mg fa h Y KX G hmg
    refine' Lots.all_mk KX G hmg ?aC ?aG0 ?lG0 ?cG0 ?kG0 ?aG1 ?lG1 ?cG1 ?kG1 ?aG2 ?lG2 ?cG2 ?kG2 ?aG3 ?lG3 ?cG3 ?kG3 ?aG4 ?lG4 ?cG4 ?kG4 ?aG5 ?lG5 ?cG5 ?kG5 ?aG6 ?lG6 ?cG6 ?kG6 ?aG7 ?lG7 ?cG7 ?kG7 ?aG8 ?lG8 ?cG8 ?kG8 ?aG9 ?lG9 ?cG9 ?kG9 ?aG10 ?lG10 ?cG10 ?kG10 ?aG11 ?lG11 ?cG11 ?kG11 ?aG12 ?lG12 ?cG12 ?kG12 ?aG13 ?lG13 ?cG13 ?kG13 ?aG14 ?lG14 ?cG14 ?kG14 ?aG15 ?lG15 ?cG15 ?kG15 ?aG16 ?lG16 ?cG16 ?kG16 ?aG17 ?lG17 ?cG17 ?kG17 ?aG18 ?lG18 ?cG18 ?kG18 ?aG19 ?lG19 ?cG19 ?kG19 ?aG20 ?lG20 ?cG20 ?kG20 ?aG21 ?lG21 ?cG21 ?kG21 ?aG22 ?lG22 ?cG22 ?kG22 ?aG23 ?lG23 ?cG23 ?kG23 ?aG24 ?lG24 ?cG24 ?kG24 ?aG25 ?lG25 ?cG25 ?kG25 ?aM0 ?iM0 ?lM0 ?cM0 ?kM0 ?aM1 ?iM1 ?lM1 ?cM1 ?kM1 ?aM2 ?iM2 ?lM2 ?cM2 ?kM2 ?aM3 ?iM3 ?lM3 ?cM3 ?kM3 ?aM4 ?iM4 ?lM4 ?cM4 ?kM4 ?aM5 ?iM5 ?lM5 ?cM5 ?kM5 ?aM6 ?iM6 ?lM6 ?cM6 ?kM6 ?aM7 ?iM7 ?lM7 ?cM7 ?kM7 ?aM8 ?iM8 ?lM8 ?cM8 ?kM8 ?aM9 ?iM9 ?lM9 ?cM9 ?kM9 ?aM10 ?iM10 ?lM10 ?cM10 ?kM10 ?aL ?lL ?cL ?kL ?pg ?hd ?po ?sa ?mk ?kc ?nB ?nK ?nP ?z0 ?z1 ?z2 ?z3 ?z4 ?z5 ?z6 ?z7 ?z8 ?z9 ?z10 ?z11 ?z12 (PySem.W.km_tabs_of Y _ (List.mem_singleton.mpr rfl)) ?nT ?hC
    (case aC => k_is); (case aG0 => k_is); (case lG0 => k_is); (case cG0 => k_is); (case kG0 => k_is); (case aG1 => k_is); (case lG1 => k_is); (case cG1 => k_is)
    (case kG1 => k_is); (case aG2 => k_is); (case lG2 => k_is); (case cG2 => k_is); (case kG2 => k_is); (case aG3 => k_is); (case lG3 => k_is); (case cG3 => k_is)
    (case kG3 => k_is); (case aG4 => k_is); (case lG4 => k_is); (case cG4 => k_is); (case kG4 => k_is); (case aG5 => k_is); (case lG5 => k_is); (case cG5 => k_is)
    (case kG5 => k_is); (case aG6 => k_is); (case lG6 => k_is); (case cG6 => k_is); (case kG6 => k_is); (case aG7 => k_is); (case lG7 => k_is); (case cG7 => k_is)
    (case kG7 => k_is); (case aG8 => k_is); (case lG8 => k_is); (case cG8 => k_is); (case kG8 => k_is); (case aG9 => k_is); (case lG9 => k_is); (case cG9 => k_is)
    (case kG9 => k_is); (case aG10 => k_is); (case lG10 => k_is); (case cG10 => k_is); (case kG10 => k_is); (case aG11 => k_is); (case lG11 => k_is); (case cG11 => k_is)
    (case kG11 => k_is); (case aG12 => k_is); (case lG12 => k_is); (case cG12 => k_is); (case kG12 => k_is); (case aG13 => k_is); (case lG13 => k_is); (case cG13 => k_is)
    (case kG13 => k_is); (case aG14 => k_is); (case lG14 => k_is); (case cG14 => k_is); (case kG14 => k_is); (case aG15 => k_is); (case lG15 => k_is); (case cG15 => k_is)
    (case kG15 => k_is); (case aG16 => k_is); (case lG16 => k_is); (case cG16 => k_is); (case kG16 => k_is); (case aG17 => k_is); (case lG17 => k_is); (case cG17 => k_is)
    (case kG17 => k_is); (case aG18 => k_is); (case lG18 => k_is); (case cG18 => k_is); (case kG18 => k_is); (case aG19 => k_is); (case lG19 => k_is); (case cG19 => k_is)
    (case kG19 => k_is); (case aG20 => k_is); (case lG20 => k_is); (case cG20 => k_is); (case kG20 => k_is); (case aG21 => k_is); (case lG21 => k_is); (case cG21 => k_is)
    (case kG21 => k_is); (case aG22 => k_is); (case lG22 => k_is); (case cG22 => k_is); (case kG22 => k_is); (case aG23 => k_is); (case lG23 => k_is); (case cG23 => k_is)
    (case kG23 => k_is); (case aG24 => k_is); (case lG24 => k_is); (case cG24 => k_is); (case kG24 => k_is); (case aG25 => k_is); (case lG25 => k_is); (case cG25 => k_is)
    (case kG25 => k_is); (case aM0 => k_is); (case iM0 => k_is); (case lM0 => k_is); (case cM0 => k_is); (case kM0 => k_is); (case aM1 => k_is); (case iM1 => k_is)
    (case lM1 => k_is); (case cM1 => k_is); (case kM1 => k_is); (case aM2 => k_is); (case iM2 => k_is); (case lM2 => k_is); (case cM2 => k_is); (case kM2 => k_is)
    (case aM3 => k_is); (case iM3 => k_is); (case lM3 => k_is); (case cM3 => k_is); (case kM3 => k_is); (case aM4 => k_is); (case iM4 => k_is); (case lM4 => k_is)
    (case cM4 => k_is); (case kM4 => k_is); (case aM5 => k_is); (case iM5 => k_is); (case lM5 => k_is); (case cM5 => k_is); (case kM5 => k_is); (case aM6 => k_is)
    (case iM6 => k_is); (case lM6 => k_is); (case cM6 => k_is); (case kM6 => k_is); (case aM7 => k_is); (case iM7 => k_is); (case lM7 => k_is); (case cM7 => k_is)
    (case kM7 => k_is); (case aM8 => k_is); (case iM8 => k_is); (case lM8 => k_is); (case cM8 => k_is); (case kM8 => k_is); (case aM9 => k_is); (case iM9 => k_is)
    (case lM9 => k_is); (case cM9 => k_is); (case kM9 => k_is); (case aM10 => k_is); (case iM10 => k_is); (case lM10 => k_is); (case cM10 => k_is); (case kM10 => k_is)
    (case aL => k_is); (case lL => k_is); (case cL => k_is); (case kL => k_is); (case pg => k_is); (case hd => k_is); (case po => k_is); (case sa => k_is)
    (case mk => k_is); (case kc => k_is); (case nB => k_is); (case nK => k_is); (case nP => k_is); (case z0 => k_is); (case z1 => k_is); (case z2 => k_is)
    (case z3 => k_is); (case z4 => k_is); (case z5 => k_is); (case z6 => k_is); (case z7 => k_is); (case z8 => k_is); (case z9 => k_is); (case z10 => k_is)
    (case z11 => k_is); (case z12 => k_is)
    (case nT => kernel_rfl); (case hC => kernel_rfl)
end
