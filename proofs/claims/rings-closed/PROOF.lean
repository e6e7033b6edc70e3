import PyProof.Rows.All
import Wide.All
import OpenK.AllK
import Wide.FinOn
import KE.KStateDown
import KE.KDictKeyed
import KE.GoesEnum
import HandS.ForMost
import HandS.Exc
import HandS.Defaults
import HandS.IsInst
import HandS.Conv
import HandS.SortInts
import HandS.NoneIn
import HandS.Deep
import HandS.TupSets
import HandS.Rev
import HandS.Walk
import KE.LtData
import KE.SortData
import KE.KDictDisplayH
import KE.KDictSum
import KE.DataMinMax
import HandS.SortRule
import HandS.RevTup
import HandS.More
import HandS.Head0
import HandS.Head1
import HandS.Head2
import HandS.HeadEnd
import HandS.HeadHook1
import HandS.HeadHook2
import PySem.Challenge.RW_turnbase_k43_rings_closed
set_option Elab.async false
set_option linter.all false
set_option maxRecDepth 100000
set_option maxHeartbeats 4000000
/-! M1: permutations of n places, as lists; the group of all of them. -/
namespace K43

theorem pig_surj {α : Type} [DecidableEq α] (l m : List α) (hn : l.Nodup) (hs : ∀ x ∈ l, x ∈ m) (hl : m.length ≤ l.length) : ∀ x ∈ m, x ∈ l := by
  intro x hx
  by_cases h : x ∈ l
  · exact h
  · exfalso
    have h2 : (x :: l).length ≤ m.length := List.Nodup.length_le_of_subset (List.nodup_cons.mpr ⟨h, hn⟩) fun y hy => by
      rcases List.mem_cons.mp hy with e | hy
      · rw [e]; exact hx
      · exact hs y hy
    rw [List.length_cons] at h2
    omega

/-- to where p takes i (all outside stay) -/
def ap (p : List Nat) (i : Nat) : Nat := p.getD i i
theorem ap_ge {p : List Nat} {i : Nat} (h : p.length ≤ i) : ap p i = i := by
  unfold ap
  rw [List.getD_eq_getElem?_getD, List.getElem?_eq_none h]
  rfl
theorem ap_lt {p : List Nat} {i : Nat} (h : i < p.length) : ap p i = p[i] := by
  unfold ap
  rw [List.getD_eq_getElem?_getD, List.getElem?_eq_getElem h]
  rfl
theorem ap_get {p : List Nat} {i : Nat} (h : i < p.length) : p[i]? = some (ap p i) := by
  rw [List.getElem?_eq_getElem h, ap_lt h]
theorem ap_ext {p q : List Nat} (hl : p.length = q.length) (h : ∀ i, i < p.length → ap p i = ap q i) : p = q := by
  refine List.ext_getElem hl fun i h1 h2 => ?_
  rw [← ap_lt h1, ← ap_lt h2]
  exact h i h1
theorem ap_map {p : List Nat} {f : Nat → Nat} {i : Nat} (h : i < p.length) : ap (p.map f) i = f (ap p i) := by
  rw [ap_lt (by rw [List.length_map]; exact h), ap_lt h, List.getElem_map]
theorem ap_range {n i : Nat} : ap (List.range n) i = i := by
  by_cases h : i < n
  · rw [ap_lt (by rw [List.length_range]; exact h), List.getElem_range]
  · exact ap_ge (by rw [List.length_range]; omega)

structure IsP (n : Nat) (p : List Nat) : Prop where
  len : p.length = n
  lt : ∀ i, i < n → ap p i < n
  inj : ∀ i j, i < n → j < n → ap p i = ap p j → i = j
theorem IsP.surj {n : Nat} {p : List Nat} (h : IsP n p) {j : Nat} (hj : j < n) : ∃ i, i < n ∧ ap p i = j := by
  have hm : ∀ x ∈ p, x ∈ List.range n := fun x hx => by
    obtain ⟨i, hi, e⟩ := List.getElem_of_mem hx
    rw [← e, ← ap_lt hi]
    exact List.mem_range.mpr (h.lt i (h.len ▸ hi))
  have hn : p.Nodup := by
    refine List.nodup_iff_pairwise_ne.mpr (List.pairwise_iff_getElem.mpr fun i j hi hj hij e => ?_)
    rw [← ap_lt hi, ← ap_lt hj] at e
    have := h.inj i j (h.len ▸ hi) (h.len ▸ hj) e
    omega
  have := pig_surj p (List.range n) hn hm (by rw [List.length_range, h.len]; exact Nat.le_refl _) j (List.mem_range.mpr hj)
  obtain ⟨i, hi, e⟩ := List.getElem_of_mem this
  exact ⟨i, h.len ▸ hi, by rw [ap_lt hi]; exact e⟩
theorem IsP.nodup {n : Nat} {p : List Nat} (h : IsP n p) : p.Nodup := by
  refine List.nodup_iff_pairwise_ne.mpr (List.pairwise_iff_getElem.mpr fun i j hi hj hij e => ?_)
  rw [← ap_lt hi, ← ap_lt hj] at e
  have := h.inj i j (h.len ▸ hi) (h.len ▸ hj) e
  omega
theorem IsP.mem_lt {n : Nat} {p : List Nat} (h : IsP n p) : ∀ x ∈ p, x < n := fun x hx => by
  obtain ⟨i, hi, e⟩ := List.getElem_of_mem hx
  rw [← e, ← ap_lt hi]
  exact h.lt i (h.len ▸ hi)
theorem isP_of {n : Nat} {p : List Nat} (hl : p.length = n) (hn : p.Nodup) (hm : ∀ x ∈ p, x < n) : IsP n p := by
  refine ⟨hl, fun i hi => ?_, fun i j hi hj e => ?_⟩
  · have hi' : i < p.length := hl ▸ hi
    rw [ap_lt hi']
    exact hm _ (List.getElem_mem hi')
  · have hi' : i < p.length := hl ▸ hi
    have hj' : j < p.length := hl ▸ hj
    rw [ap_lt hi', ap_lt hj'] at e
    have q := List.pairwise_iff_getElem.mp (List.nodup_iff_pairwise_ne.mp hn)
    rcases Nat.lt_trichotomy i j with h | h | h
    · exact absurd e (q i j hi' hj' h)
    · exact h
    · exact absurd e.symm (q j i hj' hi' h)

/-- the permutations of n places -/
abbrev Pn (n : Nat) : Type := { p : List Nat // IsP n p }
section
variable {n : Nat}
def app (x : Pn n) (i : Nat) : Nat := ap x.1 i
theorem app_lt (x : Pn n) {i : Nat} (h : i < n) : app x i < n := x.2.lt i h
theorem app_ge (x : Pn n) {i : Nat} (h : n ≤ i) : app x i = i := ap_ge (by rw [x.2.len]; exact h)
theorem app_lt_iff (x : Pn n) {i : Nat} : app x i < n ↔ i < n := by
  refine ⟨fun h => ?_, app_lt x⟩
  by_cases q : i < n
  · exact q
  · rw [app_ge x (by omega)] at h
    omega
theorem app_inj (x : Pn n) {i j : Nat} (h : app x i = app x j) : i = j := by
  by_cases hi : i < n
  · have hj : j < n := (app_lt_iff x).mp (h ▸ app_lt x hi)
    exact x.2.inj i j hi hj h
  · have hj : ¬ j < n := fun q => hi ((app_lt_iff x).mp (h ▸ app_lt x q))
    rw [app_ge x (by omega), app_ge x (by omega)] at h
    exact h
theorem app_surj (x : Pn n) (j : Nat) : ∃ i, app x i = j := by
  by_cases hj : j < n
  · obtain ⟨i, _, e⟩ := x.2.surj hj
    exact ⟨i, e⟩
  · exact ⟨j, app_ge x (by omega)⟩
theorem Pn.ext {a b : Pn n} (h : ∀ i, app a i = app b i) : a = b :=
  Subtype.ext (ap_ext (by rw [a.2.len, b.2.len]) fun i _ => h i)
/-- first p, then q -/
def mulL (p q : List Nat) : List Nat := p.map (ap q)
theorem mulL_ok {p q : List Nat} (hp : IsP n p) (hq : IsP n q) : IsP n (mulL p q) := by
  have e : ∀ i, i < n → ap (mulL p q) i = ap q (ap p i) := fun i hi => ap_map (by rw [hp.len]; exact hi)
  refine ⟨by unfold mulL; rw [List.length_map]; exact hp.len, fun i hi => ?_, fun i j hi hj h => ?_⟩
  · rw [e i hi]
    exact hq.lt _ (hp.lt i hi)
  · rw [e i hi, e j hj] at h
    exact hp.inj i j hi hj (hq.inj _ _ (hp.lt i hi) (hp.lt j hj) h)
def Pn.mul (a b : Pn n) : Pn n := ⟨mulL a.1 b.1, mulL_ok a.2 b.2⟩
instance : Mul (Pn n) := ⟨Pn.mul⟩
theorem app_mul (a b : Pn n) (i : Nat) : app (a * b) i = app b (app a i) := by
  by_cases hi : i < n
  · exact ap_map (by rw [a.2.len]; exact hi)
  · rw [app_ge _ (by omega), app_ge a (by omega), app_ge b (by omega)]
theorem idL_ok : IsP n (List.range n) :=
  ⟨List.length_range, fun i hi => by rw [ap_range]; exact hi, fun i j _ _ h => by rwa [ap_range, ap_range] at h⟩
def Pn.one (n : Nat) : Pn n := ⟨List.range n, idL_ok⟩
theorem app_one (i : Nat) : app (Pn.one n) i = i := ap_range
/-- the back of p -/
def invL (p : List Nat) : List Nat := (List.range p.length).map fun j => p.idxOf j
theorem idxOf_ap {p : List Nat} (h : IsP n p) {i : Nat} (hi : i < n) : p.idxOf (ap p i) = i := by
  have hi' : i < p.length := by rw [h.len]; exact hi
  have hm : ap p i ∈ p := by rw [ap_lt hi']; exact List.getElem_mem hi'
  have h1 : p.idxOf (ap p i) < p.length := List.idxOf_lt_length_of_mem hm
  have h2 : ap p (p.idxOf (ap p i)) = ap p i := by rw [ap_lt h1]; exact List.getElem_idxOf h1
  exact h.inj _ _ (h.len ▸ h1) hi h2
theorem invL_ap {p : List Nat} (h : IsP n p) {i : Nat} (hi : i < n) : ap (invL p) (ap p i) = i := by
  have h1 : ap p i < n := h.lt i hi
  unfold invL
  rw [ap_map (by rw [List.length_range, h.len]; exact h1), ap_range]
  exact idxOf_ap h hi
theorem invL_ok {p : List Nat} (h : IsP n p) : IsP n (invL p) := by
  refine ⟨by unfold invL; rw [List.length_map, List.length_range]; exact h.len, fun j hj => ?_, fun j k hj hk e => ?_⟩
  · obtain ⟨i, hi, rfl⟩ := h.surj hj
    rw [invL_ap h hi]
    exact hi
  · obtain ⟨i, hi, rfl⟩ := h.surj hj
    obtain ⟨i', hi', rfl⟩ := h.surj hk
    rw [invL_ap h hi, invL_ap h hi'] at e
    rw [e]
/-- what is the back of p -/
theorem invL_eq {p r : List Nat} (h : IsP n p) (hl : r.length = n) (hr : ∀ i, i < n → ap r (ap p i) = i) : r = invL p := by
  refine ap_ext (by rw [hl, (invL_ok h).len]) fun j hj => ?_
  rw [hl] at hj
  obtain ⟨i, hi, rfl⟩ := h.surj hj
  rw [hr i hi, invL_ap h hi]
def Pn.inv (a : Pn n) : Pn n := ⟨invL a.1, invL_ok a.2⟩
theorem app_inv_app (a : Pn n) (i : Nat) : app a.inv (app a i) = i := by
  by_cases hi : i < n
  · exact invL_ap a.2 hi
  · rw [app_ge a (by omega), app_ge _ (by omega)]
theorem app_app_inv (a : Pn n) (j : Nat) : app a (app a.inv j) = j := by
  obtain ⟨i, rfl⟩ := app_surj a j
  rw [app_inv_app]
theorem mul_assoc (a b c : Pn n) : a * b * c = a * (b * c) := Pn.ext fun i => by simp only [app_mul]
theorem one_mul (a : Pn n) : Pn.one n * a = a := Pn.ext fun i => by rw [app_mul, app_one]
theorem mul_one (a : Pn n) : a * Pn.one n = a := Pn.ext fun i => by rw [app_mul, app_one]
theorem mul_inv (a : Pn n) : a * a.inv = Pn.one n := Pn.ext fun i => by rw [app_mul, app_one, app_inv_app]
theorem inv_mul (a : Pn n) : a.inv * a = Pn.one n := Pn.ext fun i => by rw [app_mul, app_one, app_app_inv]
theorem inv_one : (Pn.one n).inv = Pn.one n := Pn.ext fun i => by
  have := app_inv_app (Pn.one n) i
  rw [app_one] at this
  rw [this, app_one]
theorem inv_inv (a : Pn n) : a.inv.inv = a := Pn.ext fun i => (app_app_inv a _).symm.trans (congrArg (app a) (app_app_inv a.inv i))
theorem inv_mul_rev (a b : Pn n) : (a * b).inv = b.inv * a.inv := Pn.ext fun i => by
  obtain ⟨j, rfl⟩ := app_surj (a * b) i
  rw [app_inv_app, app_mul, app_mul, app_inv_app, app_inv_app]
theorem app_inv_eq (a : Pn n) {i j : Nat} (h : app a i = j) : app a.inv j = i := by rw [← h, app_inv_app]

/-- what is made of S -/
inductive Gen (S : Pn n → Prop) : Pn n → Prop where
  | one : Gen S (Pn.one n)
  | base {m : Pn n} (h : S m) : Gen S m
  | mul {a b : Pn n} (ha : Gen S a) (hb : Gen S b) : Gen S (a * b)
  | inv {a : Pn n} (ha : Gen S a) : Gen S a.inv
theorem Gen.sub {S T : Pn n → Prop} (h : ∀ m, S m → Gen T m) {x : Pn n} (g : Gen S x) : Gen T x := by
  induction g with
  | one => exact .one
  | base hm => exact h _ hm
  | mul _ _ ih1 ih2 => exact .mul ih1 ih2
  | inv _ ih => exact .inv ih
theorem Gen.mono {S T : Pn n → Prop} (h : ∀ m, S m → T m) {x : Pn n} (g : Gen S x) : Gen T x := g.sub fun m hm => .base (h m hm)
/-- it leaves i -/
theorem Gen.fixes {S : Pn n → Prop} {i : Nat} (h : ∀ m, S m → app m i = i) {x : Pn n} (g : Gen S x) : app x i = i := by
  induction g with
  | one => exact app_one i
  | base hm => exact h _ hm
  | mul _ _ ih1 ih2 => rw [app_mul, ih1, ih2]
  | inv _ ih => exact app_inv_eq _ ih
end
end K43
/-! M2: the chain of steps: what sifts, what is made, when both are the same. -/
namespace K43
section
variable {n : Nat}
structure Stp (n : Nat) where
  lifts : List (Nat × Pn n)
  makers : List (Pn n)
theorem lk_mem : ∀ {L : List (Nat × Pn n)} {k : Nat} {u : Pn n}, L.lookup k = some u → (k, u) ∈ L
  | (a, v) :: L, k, u, h => by
    rw [List.lookup_cons] at h
    cases e : k == a with
    | true =>
      rw [e] at h
      cases h
      rw [beq_iff_eq.mp e]
      exact List.mem_cons_self
    | false =>
      rw [e] at h
      exact List.mem_cons_of_mem _ (lk_mem h)
theorem lk_key {L : List (Nat × Pn n)} {k : Nat} {u : Pn n} (h : L.lookup k = some u) : k ∈ L.map (·.1) := List.mem_map.mpr ⟨_, lk_mem h, rfl⟩
theorem key_lk : ∀ {L : List (Nat × Pn n)} {k : Nat}, k ∈ L.map (·.1) → ∃ u, L.lookup k = some u
  | (a, v) :: L, k, h => by
    rw [List.lookup_cons]
    cases e : k == a with
    | true => exact ⟨v, rfl⟩
    | false =>
      rw [List.map_cons] at h
      rcases List.mem_cons.mp h with h | h
      · subst h
        rw [beq_self_eq_true] at e
        cases e
      · exact key_lk h
theorem lk_none {L : List (Nat × Pn n)} {k : Nat} (h : L.lookup k = none) : k ∉ L.map (·.1) := fun q => by
  obtain ⟨u, e⟩ := key_lk q
  rw [h] at e
  cases e
theorem lk_app : ∀ {L : List (Nat × Pn n)} {k g : Nat} {v : Pn n}, (L ++ [(g, v)]).lookup k = (match L.lookup k with | some u => some u | none => if k = g then some v else none)
  | [], k, g, v => by
    show (match k == g with | true => some v | false => none) = if k = g then some v else none
    by_cases e : k = g
    · subst e
      rw [if_pos rfl, beq_self_eq_true]
    · rw [if_neg e, beq_eq_false_iff_ne.mpr e]
  | (a, w) :: L, k, g, v => by
    rw [List.cons_append, List.lookup_cons, List.lookup_cons]
    cases e : k == a with
    | true => rfl
    | false => exact lk_app

/-- x comes through from the place s on -/
def sf : List (Stp n) → Nat → Pn n → Prop
  | [], _, _ => True
  | st :: r, s, x => ∃ u, st.lifts.lookup (app x s) = some u ∧ sf r (s + 1) (x * u.inv)
/-- it leaves all places below s -/
def Fxs (s : Nat) (x : Pn n) : Prop := ∀ j, j < s → app x j = j
theorem Fxs.mul {s : Nat} {x y : Pn n} (h : Fxs s x) (k : Fxs s y) : Fxs s (x * y) := fun j hj => by rw [app_mul, h j hj, k j hj]
theorem Fxs.inv {s : Nat} {x : Pn n} (h : Fxs s x) : Fxs s x.inv := fun j hj => app_inv_eq _ (h j hj)
theorem Fxs.one {s : Nat} : Fxs s (Pn.one n) := fun j _ => app_one j
theorem Fxs.gen {s : Nat} {S : Pn n → Prop} (h : ∀ m, S m → Fxs s m) {x : Pn n} (g : Gen S x) : Fxs s x := fun j hj => g.fixes fun m hm => h m hm j hj
theorem Fxs.top {x : Pn n} (h : Fxs n x) : x = Pn.one n := Pn.ext fun i => by
  rw [app_one]
  by_cases hi : i < n
  · exact h i hi
  · exact app_ge x (by omega)
def mkOf : List (Stp n) → Pn n → Prop
  | [], _ => False
  | st :: _, m => m ∈ st.makers
structure StpOk (s : Nat) (st : Stp n) : Prop where
  nd : (st.lifts.map (·.1)).Nodup
  self : st.lifts.lookup s = some (Pn.one n)
  to_ : ∀ k u, st.lifts.lookup k = some u → app u s = k
  fx : ∀ k u, st.lifts.lookup k = some u → Fxs s u
  gen : ∀ k u, st.lifts.lookup k = some u → Gen (fun m => m ∈ st.makers) u
  mkx : ∀ m, m ∈ st.makers → Fxs s m
def Ok : List (Stp n) → Nat → Prop
  | [], s => s = n
  | st :: r, s => StpOk s st ∧ (∀ m, mkOf r m → Gen (fun m => m ∈ st.makers) m) ∧ Ok r (s + 1)
def Cp : List (Stp n) → Nat → Prop
  | [], _ => True
  | st :: r, s => (∀ k u m, st.lifts.lookup k = some u → m ∈ st.makers → ∃ u', st.lifts.lookup (app m k) = some u' ∧ sf r (s + 1) (u * m * u'.inv)) ∧ Cp r (s + 1)
theorem fx_next {s : Nat} {x u : Pn n} (hx : Fxs s x) (hu : Fxs s u) (e : app u s = app x s) : Fxs (s + 1) (x * u.inv) := fun j hj => by
  rw [app_mul]
  by_cases h : j = s
  · subst h
    exact app_inv_eq _ e
  · rw [hx j (by omega)]
    exact app_inv_eq _ (hu j (by omega))
theorem back_mul (x u : Pn n) : x * u.inv * u = x := by rw [mul_assoc, inv_mul, mul_one]
theorem sf_gen : ∀ (S : List (Stp n)) (s : Nat) (x : Pn n), Ok S s → Fxs s x → sf S s x → Gen (mkOf S) x
  | [], s, x, h, f, _ => by
    have h : s = n := h
    subst h
    rw [f.top]
    exact .one
  | st :: r, s, x, ⟨h1, h2, h3⟩, f, ⟨u, hu, hs⟩ => by
    have g := sf_gen r (s + 1) (x * u.inv) h3 (fx_next f (h1.fx _ u hu) (h1.to_ _ u hu)) hs
    have g2 : Gen (fun m => m ∈ st.makers) (x * u.inv) := g.sub h2
    have g3 := Gen.mul g2 (h1.gen _ u hu)
    rw [back_mul] at g3
    exact g3
theorem sf_one : ∀ (S : List (Stp n)) (s : Nat), Ok S s → sf S s (Pn.one n)
  | [], _, _ => True.intro
  | st :: r, s, ⟨h1, _, h3⟩ => ⟨Pn.one n, by rw [app_one]; exact h1.self, by rw [mul_inv]; exact sf_one r (s + 1) h3⟩
theorem mkOf_fx {S : List (Stp n)} {s : Nat} (h : Ok S s) : ∀ m, mkOf S m → Fxs s m := by
  cases S with
  | nil => exact fun m hm => hm.elim
  | cons st r => exact h.1.mkx
theorem onto {s : Nat} {st : Stp n} (h : StpOk s st) {m : Pn n} (hm : ∀ k u, st.lifts.lookup k = some u → ∃ u', st.lifts.lookup (app m k) = some u') {k : Nat} {u : Pn n} (hk : st.lifts.lookup k = some u) :
    ∃ f uf, st.lifts.lookup f = some uf ∧ app m f = k := by
  have nd : ((st.lifts.map (·.1)).map (app m)).Nodup := by
    refine List.nodup_iff_pairwise_ne.mpr (List.pairwise_map.mpr ((List.nodup_iff_pairwise_ne.mp h.nd).imp fun {a b} hab e => hab (app_inj m e)))
  have q := pig_surj _ (st.lifts.map (·.1)) nd (fun x hx => by
    obtain ⟨y, hy, rfl⟩ := List.mem_map.mp hx
    obtain ⟨u, e⟩ := key_lk hy
    obtain ⟨u', e'⟩ := hm y u e
    exact lk_key e') (by rw [List.length_map (as := List.map (fun x => x.1) st.lifts)]; exact Nat.le_refl _) k (lk_key hk)
  obtain ⟨f, hf, e⟩ := List.mem_map.mp q
  obtain ⟨uf, euf⟩ := key_lk hf
  exact ⟨f, uf, euf, e⟩
theorem gen_sf : ∀ (S : List (Stp n)) (s : Nat), Ok S s → Cp S s → ∀ g, Gen (mkOf S) g → ∀ x, Fxs s x → sf S s x → sf S s (x * g) ∧ sf S s (x * g.inv)
  | [], _, _, _, _, _ => fun _ _ _ => ⟨True.intro, True.intro⟩
  | st :: r, s, ok, cp, g, hg => by
    have okr : Ok r (s + 1) := ok.2.2
    have h1 : StpOk s st := ok.1
    have ih := gen_sf r (s + 1) okr cp.2
    have fg : ∀ {y : Pn n}, Gen (mkOf (st :: r)) y → Fxs s y := fun hy => Fxs.gen (mkOf_fx ok) hy
    induction hg with
    | one =>
      intro x hx hs
      rw [inv_one, mul_one]
      exact ⟨hs, hs⟩
    | @base m hm =>
      intro x hx hs
      have hm : m ∈ st.makers := hm
      obtain ⟨u, hu, hs⟩ := hs
      have fh : Fxs (s + 1) (x * u.inv) := fx_next hx (h1.fx _ u hu) (h1.to_ _ u hu)
      have fm : Fxs s m := h1.mkx m hm
      have schr : ∀ {k k' : Nat} {a b : Pn n}, st.lifts.lookup k = some a → st.lifts.lookup k' = some b → app m k = k' → sf r (s + 1) (a * m * b.inv) → Gen (mkOf r) (a * m * b.inv) := by
        intro k k' a b ha hb e q
        refine sf_gen r (s + 1) _ okr (fx_next ((h1.fx _ a ha).mul fm) (h1.fx _ b hb) ?_) q
        rw [app_mul, h1.to_ _ a ha, e, h1.to_ _ b hb]
      constructor
      · obtain ⟨u', e', q⟩ := cp.1 _ u m hu hm
        refine ⟨u', by rw [app_mul]; exact e', ?_⟩
        have z := (ih _ (schr hu e' rfl q) _ fh hs).1
        have e : x * u.inv * (u * m * u'.inv) = x * m * u'.inv := by
          rw [← mul_assoc, ← mul_assoc, back_mul]
        rw [e] at z
        exact z
      · obtain ⟨f, uf, ef, em⟩ := onto h1 (m := m) (fun k v hk => let ⟨u', e', _⟩ := cp.1 k v m hk hm; ⟨u', e'⟩) hu
        obtain ⟨u', e', q⟩ := cp.1 f uf m ef hm
        rw [em, hu] at e'
        cases e'
        refine ⟨uf, by rw [app_mul, app_inv_eq m em]; exact ef, ?_⟩
        have z := (ih _ (schr ef hu em q) _ fh hs).2
        have e : x * u.inv * (uf * m * u.inv).inv = x * m.inv * uf.inv := by
          rw [inv_mul_rev, inv_mul_rev, inv_inv, ← mul_assoc, back_mul, ← mul_assoc]
        rw [e] at z
        exact z
    | @mul a b ha hb iha ihb =>
      intro x hx hs
      have fa : Fxs s a := fg ha
      have fb : Fxs s b := fg hb
      constructor
      · rw [← mul_assoc]
        exact (ihb _ (hx.mul fa) (iha x hx hs).1).1
      · rw [inv_mul_rev, ← mul_assoc]
        exact (iha _ (hx.mul fb.inv) (ihb x hx hs).2).2
    | @inv a ha iha =>
      intro x hx hs
      rw [inv_inv]
      exact ⟨(iha x hx hs).2, (iha x hx hs).1⟩
theorem gen_in {S : List (Stp n)} {s : Nat} (h : Ok S s) (c : Cp S s) {g : Pn n} (hg : Gen (mkOf S) g) : sf S s g := by
  have q := (gen_sf S s h c g hg _ Fxs.one (sf_one S s h)).1
  rw [one_mul] at q
  exact q
/-- more lifts: what came through comes through -/
def Ext : List (Stp n) → List (Stp n) → Prop
  | [], _ => True
  | _ :: _, [] => False
  | st :: r, st' :: r' => (∀ k u, st.lifts.lookup k = some u → st'.lifts.lookup k = some u) ∧ Ext r r'
theorem sf_ext : ∀ (S S' : List (Stp n)) (s : Nat) (x : Pn n), Ext S S' → S'.length ≤ S.length → sf S s x → sf S' s x
  | [], [], _, _, _, _, _ => True.intro
  | [], _ :: _, _, _, _, h, _ => absurd h (by simp)
  | st :: r, st' :: r', s, x, ⟨e1, e2⟩, hl, ⟨u, hu, hs⟩ => ⟨u, e1 _ _ hu, sf_ext r r' (s + 1) _ e2 (by simpa using hl) hs⟩
theorem Ext.refl : ∀ S : List (Stp n), Ext S S
  | [] => True.intro
  | _ :: r => ⟨fun _ _ h => h, Ext.refl r⟩
theorem Ext.set : ∀ (S : List (Stp n)) (s : Nat) {st st' : Stp n}, S[s]? = some st → (∀ k u, st.lifts.lookup k = some u → st'.lifts.lookup k = some u) → Ext S (S.set s st')
  | [], _, _, _, h, _ => by simp at h
  | a :: r, 0, st, st', h, k => by
    have e : a = st := by simpa using h
    subst e
    exact ⟨k, Ext.refl r⟩
  | a :: r, s + 1, st, st', h, k => ⟨fun _ _ q => q, Ext.set r s (by simpa using h) k⟩
theorem Ext.drop : ∀ (t : Nat) {S S' : List (Stp n)}, Ext S S' → Ext (S.drop t) (S'.drop t)
  | 0, _, _, h => h
  | _ + 1, [], _, _ => True.intro
  | _ + 1, _ :: _, [], h => h.elim
  | t + 1, _ :: _, _ :: _, h => Ext.drop t h.2
end
end K43
/-! M3: one maker more at a step (grown); the stack of tasks (add). -/
namespace K43
section
variable {n : Nat}
/-- it leaves all places outside the window -/
def Win (w : List Nat) (x : Pn n) : Prop := ∀ i, i ∉ w → app x i = i
theorem Win.gen {w : List Nat} {S : Pn n → Prop} (h : ∀ m, S m → Win w m) {x : Pn n} (g : Gen S x) : Win w x := fun i hi => g.fixes fun m hm => h m hm i hi

/-! ### grown -/
structure GInv (r : List (Stp n)) (s : Nat) (L0 : List (Nat × Pn n)) (M : List (Pn n)) (L : List (Nat × Pn n)) (ps : List (Nat × Nat)) (at_ : Nat) (ts : List (Pn n)) : Prop where
  ok : StpOk s ⟨L, M⟩
  mono : ∀ k u, L0.lookup k = some u → L.lookup k = some u
  cov : ∀ k u j m, L.lookup k = some u → M[j]? = some m → (k, j) ∈ ps.drop at_ ∨ ∃ u', L.lookup (app m k) = some u' ∧ (Gen (mkOf r) (u * m * u'.inv) ∨ u * m * u'.inv ∈ ts)
  pv : ∀ p, p ∈ ps → (∃ u, L.lookup p.1 = some u) ∧ p.2 < M.length
  tk : ∀ g, g ∈ ts → Fxs (s + 1) g ∧ Gen (fun m => m ∈ M) g
  atl : at_ ≤ ps.length
  psl : ps.length ≤ L.length * M.length
  tsl : ts.length ≤ at_
theorem StpOk.more {s : Nat} {L : List (Nat × Pn n)} {M : List (Pn n)} {x : Pn n} (h : StpOk s ⟨L, M⟩) (fx : Fxs s x) : StpOk s ⟨L, M ++ [x]⟩ :=
  ⟨h.nd, h.self, h.to_, h.fx, fun k u e => (h.gen k u e).mono fun m hm => List.mem_append_left _ hm, fun m hm => by
    rcases List.mem_append.mp hm with q | q
    · exact h.mkx m q
    · rw [List.mem_singleton.mp q]
      exact fx⟩
theorem GInv.start {r : List (Stp n)} {s : Nat} {L : List (Nat × Pn n)} {M : List (Pn n)} {x : Pn n} (h : StpOk s ⟨L, M⟩) (fx : Fxs s x)
    (cp : ∀ k u m, L.lookup k = some u → m ∈ M → ∃ u', L.lookup (app m k) = some u' ∧ Gen (mkOf r) (u * m * u'.inv)) :
    GInv r s L (M ++ [x]) L (L.map fun e => (e.1, M.length)) 0 [] where
  ok := h.more fx
  mono := fun _ _ e => e
  cov := fun k u j m hk hj => by
    by_cases hlt : j < M.length
    · rw [List.getElem?_append_left hlt] at hj
      obtain ⟨u', e, q⟩ := cp k u m hk (List.mem_of_getElem? hj)
      exact .inr ⟨u', e, .inl q⟩
    · have hj2 := (List.getElem?_eq_some_iff.mp hj).1
      rw [List.length_append, List.length_singleton] at hj2
      have e : j = M.length := by omega
      subst e
      exact .inl (List.mem_map.mpr ⟨_, lk_mem hk, rfl⟩)
  pv := fun p hp => by
    obtain ⟨e, he, rfl⟩ := List.mem_map.mp hp
    exact ⟨key_lk (List.mem_map.mpr ⟨e, he, rfl⟩), by rw [List.length_append, List.length_singleton]; exact Nat.lt_succ_self _⟩
  tk := fun _ h => absurd h (by simp)
  atl := Nat.zero_le _
  psl := by
    rw [List.length_map, List.length_append, List.length_singleton, Nat.mul_add]
    omega
  tsl := Nat.le_refl _
theorem drop_at {α : Type} {l : List α} {i : Nat} {x : α} (h : l[i]? = some x) : l.drop i = x :: l.drop (i + 1) := by
  obtain ⟨hl, e⟩ := List.getElem?_eq_some_iff.mp h
  rw [List.drop_eq_getElem_cons hl, e]
section
variable {r : List (Stp n)} {s : Nat} {L0 L : List (Nat × Pn n)} {M : List (Pn n)} {ps : List (Nat × Nat)} {at_ : Nat} {ts : List (Pn n)} {k j : Nat} {u m : Pn n}
/-- the pair at hand leads to a new place -/
theorem GInv.new (I : GInv r s L0 M L ps at_ ts) (hp : ps[at_]? = some (k, j)) (hu : L.lookup k = some u) (hm : M[j]? = some m) (hg : L.lookup (app m k) = none) :
    GInv r s L0 M (L ++ [(app m k, u * m)]) (ps ++ (List.range M.length).map fun i => (app m k, i)) (at_ + 1) ts := by
  have hmM : m ∈ M := List.mem_of_getElem? hm
  have hat : at_ < ps.length := (List.getElem?_eq_some_iff.mp hp).1
  have old : ∀ {a : Nat} {v : Pn n}, L.lookup a = some v → (L ++ [(app m k, u * m)]).lookup a = some v := fun {a v} e => by rw [lk_app, e]
  have cs : ∀ {a : Nat} {v : Pn n}, (L ++ [(app m k, u * m)]).lookup a = some v → L.lookup a = some v ∨ (a = app m k ∧ v = u * m) := fun {a v} e => by
    rw [lk_app] at e
    cases q : L.lookup a with
    | some z => rw [q] at e; exact .inl e
    | none =>
      rw [q] at e
      by_cases z : a = app m k
      · have e : (if a = app m k then some (u * m) else none) = some v := e
        rw [if_pos z] at e
        exact .inr ⟨z, (Option.some.inj e).symm⟩
      · have e : (if a = app m k then some (u * m) else none) = some v := e
        rw [if_neg z] at e
        cases e
  have fm := I.ok.mkx m hmM
  have me : ∀ {p : Nat × Nat}, p ∈ ps.drop (at_ + 1) → p ∈ (ps ++ (List.range M.length).map fun i => (app m k, i)).drop (at_ + 1) := fun h => by
    rw [List.drop_append_of_le_length (by omega)]
    exact List.mem_append_left _ h
  refine ⟨⟨?_, old I.ok.self, fun a v e => ?_, fun a v e => ?_, fun a v e => ?_, I.ok.mkx⟩, fun a v e => old (I.mono a v e), fun a v i z e hi => ?_, fun p hp' => ?_, I.tk, ?_, ?_, by have := I.tsl; omega⟩
  · show ((L ++ [(app m k, u * m)]).map (·.1)).Nodup
    rw [List.map_append]
    refine List.nodup_append.mpr ⟨I.ok.nd, by simp, ?_⟩
    intro a ha b hb e
    have hb : b = app m k := by simpa using hb
    subst e
    rw [hb] at ha
    exact lk_none hg ha
  · rcases cs e with e | ⟨rfl, rfl⟩
    · exact I.ok.to_ a v e
    · rw [app_mul, I.ok.to_ k u hu]
  · rcases cs e with e | ⟨rfl, rfl⟩
    · exact I.ok.fx a v e
    · exact (I.ok.fx k u hu).mul fm
  · rcases cs e with e | ⟨rfl, rfl⟩
    · exact I.ok.gen a v e
    · exact (I.ok.gen k u hu).mul (.base hmM)
  · rcases cs e with e1 | ⟨rfl, rfl⟩
    · rcases I.cov a v i z e1 hi with q | ⟨u', e', q⟩
      · rw [drop_at hp] at q
        rcases List.mem_cons.mp q with q | q
        · obtain ⟨q1, q2⟩ := Prod.mk.inj q
          rw [q2, hm] at hi
          rw [q1, hu] at e1
          cases hi
          cases e1
          rw [q1]
          refine .inr ⟨u * m, by rw [lk_app, hg]; exact if_pos rfl, .inl ?_⟩
          rw [mul_inv]
          exact .one
        · exact .inl (me q)
      · exact .inr ⟨u', old e', q⟩
    · refine .inl ?_
      rw [List.drop_append_of_le_length (by omega)]
      exact List.mem_append_right _ (List.mem_map.mpr ⟨i, List.mem_range.mpr (List.getElem?_eq_some_iff.mp hi).1, rfl⟩)
  · rcases List.mem_append.mp hp' with q | q
    · obtain ⟨⟨v, e⟩, h2⟩ := I.pv p q
      exact ⟨⟨v, old e⟩, h2⟩
    · obtain ⟨i, hi, rfl⟩ := List.mem_map.mp q
      exact ⟨⟨u * m, by rw [lk_app, hg]; exact if_pos rfl⟩, List.mem_range.mp hi⟩
  · rw [List.length_append]
    omega
  · have := I.psl
    rw [List.length_append, List.length_append, List.length_map, List.length_range, List.length_singleton, Nat.add_mul, Nat.one_mul]
    omega
/-- the pair at hand leads to a place that is there -/
theorem GInv.old (I : GInv r s L0 M L ps at_ ts) {v : Pn n} {ts' : List (Pn n)} (hp : ps[at_]? = some (k, j)) (hu : L.lookup k = some u) (hm : M[j]? = some m) (hg : L.lookup (app m k) = some v)
    (ht : ts' = if u * m = v then ts else ts ++ [u * m * v.inv]) : GInv r s L0 M L ps (at_ + 1) ts' := by
  have hmM : m ∈ M := List.mem_of_getElem? hm
  have hat : at_ < ps.length := (List.getElem?_eq_some_iff.mp hp).1
  have sub : ∀ g, g ∈ ts → g ∈ ts' := fun g h => by
    rw [ht]
    split
    · exact h
    · exact List.mem_append_left _ h
  refine ⟨I.ok, I.mono, fun a b i z e hi => ?_, I.pv, fun g hgt => ?_, by omega, I.psl, ?_⟩
  · rcases I.cov a b i z e hi with q | ⟨u', e', q⟩
    · rw [drop_at hp] at q
      rcases List.mem_cons.mp q with q | q
      · obtain ⟨q1, q2⟩ := Prod.mk.inj q
        rw [q2, hm] at hi
        rw [q1, hu] at e
        cases hi
        cases e
        rw [q1]
        refine .inr ⟨v, hg, ?_⟩
        by_cases c : u * m = v
        · refine .inl ?_
          rw [c, mul_inv]
          exact .one
        · refine .inr ?_
          rw [ht, if_neg c]
          exact List.mem_append_right _ (List.mem_singleton.mpr rfl)
      · exact .inl q
    · refine .inr ⟨u', e', ?_⟩
      rcases q with q | q
      · exact .inl q
      · exact .inr (sub _ q)
  · rw [ht] at hgt
    split at hgt
    · exact I.tk g hgt
    · rcases List.mem_append.mp hgt with q | q
      · exact I.tk g q
      · rw [List.mem_singleton.mp q]
        refine ⟨fx_next ((I.ok.fx k u hu).mul (I.ok.mkx m hmM)) (I.ok.fx _ v hg) ?_, ((I.ok.gen k u hu).mul (.base hmM)).mul (I.ok.gen _ v hg).inv⟩
        rw [app_mul, I.ok.to_ k u hu, I.ok.to_ _ v hg]
  · have := I.tsl
    rw [ht]
    split
    · omega
    · rw [List.length_append, List.length_singleton]
      omega
end
theorem StpOk.few {s : Nat} {st : Stp n} (h : StpOk s st) (hs : s < n) : st.lifts.length ≤ n := by
  have q := List.Nodup.length_le_of_subset h.nd (l₂ := List.range n) fun k hk => by
    obtain ⟨u, e⟩ := key_lk hk
    rw [← h.to_ k u e]
    exact List.mem_range.mpr (app_lt u hs)
  rw [List.length_map, List.length_range] at q
  exact q
theorem StpOk.lt {s : Nat} {st : Stp n} (h : StpOk s st) (hs : s < n) {k : Nat} {u : Pn n} (e : st.lifts.lookup k = some u) : k < n := by
  rw [← h.to_ k u e]
  exact app_lt u hs
/-- what grown gives -/
structure GEnd (r : List (Stp n)) (s : Nat) (L0 : List (Nat × Pn n)) (M : List (Pn n)) (L : List (Nat × Pn n)) (ts : List (Pn n)) : Prop where
  ok : StpOk s ⟨L, M⟩
  mono : ∀ k u, L0.lookup k = some u → L.lookup k = some u
  cp : ∀ k u m, L.lookup k = some u → m ∈ M → ∃ u', L.lookup (app m k) = some u' ∧ (Gen (mkOf r) (u * m * u'.inv) ∨ u * m * u'.inv ∈ ts)
  tk : ∀ g, g ∈ ts → Fxs (s + 1) g ∧ Gen (fun m => m ∈ M) g
  tsl : ts.length ≤ L.length * M.length
theorem GInv.fin {r : List (Stp n)} {s : Nat} {L0 L : List (Nat × Pn n)} {M : List (Pn n)} {ps : List (Nat × Nat)} {at_ : Nat} {ts : List (Pn n)} (I : GInv r s L0 M L ps at_ ts) (h : ps.length ≤ at_) : GEnd r s L0 M L ts where
  ok := I.ok
  mono := I.mono
  cp := fun k u m hk hm => by
    obtain ⟨j, hj⟩ := List.mem_iff_getElem?.mp hm
    rcases I.cov k u j m hk hj with q | q
    · rw [List.drop_eq_nil_of_le h] at q
      cases q
    · exact q
  tk := I.tk
  tsl := Nat.le_trans I.tsl (Nat.le_trans I.atl I.psl)

/-! ### add -/
structure AInv (w : List Nat) (S : List (Stp n)) (T : List (Nat × Pn n)) : Prop where
  len : S.length = n
  ok : ∀ (s : Nat) (st : Stp n), S[s]? = some st → StpOk s st
  ch : ∀ (s : Nat) (st st' : Stp n), S[s]? = some st → S[s + 1]? = some st' → ∀ m, m ∈ st'.makers → Gen (fun m => m ∈ st.makers) m
  nd : ∀ (s : Nat) (st : Stp n), S[s]? = some st → st.makers.Nodup
  win : ∀ (s : Nat) (st : Stp n), S[s]? = some st → ∀ m, m ∈ st.makers → Win w m
  cp : ∀ (s : Nat) (st : Stp n), S[s]? = some st → ∀ k u m, st.lifts.lookup k = some u → m ∈ st.makers → ∃ u', st.lifts.lookup (app m k) = some u' ∧ (Gen (mkOf (S.drop (s + 1))) (u * m * u'.inv) ∨ (s + 1, u * m * u'.inv) ∈ T)
  srt : T.Pairwise fun a b => a.1 ≤ b.1
  tf : ∀ t, t ∈ T → Fxs t.1 t.2
  tw : ∀ t, t ∈ T → Win w t.2
  tg : ∀ t, t ∈ T → ∀ (s : Nat) (st : Stp n), t.1 = s + 1 → S[s]? = some st → Gen (fun m => m ∈ st.makers) t.2
  tl : ∀ t, t ∈ T → t.1 ≤ n
theorem AInv.okd {w : List Nat} {S : List (Stp n)} {T : List (Nat × Pn n)} (I : AInv w S T) : ∀ d s, s + d = n → Ok (S.drop s) s
  | 0, s, h => by
    rw [List.drop_eq_nil_of_le (by rw [I.len]; omega)]
    show s = n
    omega
  | d + 1, s, h => by
    have hs : s < S.length := by rw [I.len]; omega
    have e : S[s]? = some S[s] := List.getElem?_eq_getElem hs
    rw [drop_at e]
    have ih := okd I d (s + 1) (by omega)
    refine ⟨I.ok s _ e, fun m hm => ?_, ih⟩
    cases e2 : S[s + 1]? with
    | none =>
      have : S.length ≤ s + 1 := List.getElem?_eq_none_iff.mp e2
      rw [List.drop_eq_nil_of_le this] at hm
      exact hm.elim
    | some st' =>
      rw [drop_at e2] at hm
      exact I.ch s _ st' e e2 m hm
theorem AInv.cpd {w : List Nat} {S : List (Stp n)} {T : List (Nat × Pn n)} (I : AInv w S T) {b : Nat} (hb : ∀ t, t ∈ T → t.1 ≤ b) : ∀ d s, s + d = n → b ≤ s → Cp (S.drop s) s
  | 0, s, h, _ => by
    rw [List.drop_eq_nil_of_le (by rw [I.len]; omega)]
    exact True.intro
  | d + 1, s, h, hs' => by
    have hs : s < S.length := by rw [I.len]; omega
    have e : S[s]? = some S[s] := List.getElem?_eq_getElem hs
    rw [drop_at e]
    have ih := cpd I hb d (s + 1) (by omega) (by omega)
    refine ⟨fun k u m hk hm => ?_, ih⟩
    obtain ⟨u', e', q⟩ := I.cp s _ e k u m hk hm
    refine ⟨u', e', ?_⟩
    rcases q with q | q
    · exact gen_in (I.okd d (s + 1) (by omega)) ih q
    · have := hb _ q
      simp at this
      omega
section
variable {w : List Nat} {S : List (Stp n)} {T : List (Nat × Pn n)} {s : Nat} {x : Pn n}
theorem AInv.top_le (I : AInv w S (T ++ [(s, x)])) : ∀ t, t ∈ T ++ [(s, x)] → t.1 ≤ s := fun t ht => by
  rcases List.mem_append.mp ht with q | q
  · exact (List.pairwise_append.mp I.srt).2.2 t q (s, x) (List.mem_singleton.mpr rfl)
  · rw [List.mem_singleton.mp q]
    exact Nat.le_refl _
theorem AInv.top_n (I : AInv w S (T ++ [(s, x)])) : s ≤ n := I.tl (s, x) (List.mem_append_right _ (List.mem_singleton.mpr rfl))
theorem AInv.top_f (I : AInv w S (T ++ [(s, x)])) : Fxs s x := I.tf (s, x) (List.mem_append_right _ (List.mem_singleton.mpr rfl))
theorem AInv.top_w (I : AInv w S (T ++ [(s, x)])) : Win w x := I.tw (s, x) (List.mem_append_right _ (List.mem_singleton.mpr rfl))
/-- the task is done already -/
theorem AInv.skip (I : AInv w S (T ++ [(s, x)])) (h : sf (S.drop s) s x) : AInv w S T where
  len := I.len
  ok := I.ok
  ch := I.ch
  nd := I.nd
  win := I.win
  cp := fun s' st e k u m hk hm => by
    obtain ⟨u', e', q⟩ := I.cp s' st e k u m hk hm
    refine ⟨u', e', ?_⟩
    rcases q with q | q
    · exact .inl q
    · rcases List.mem_append.mp q with q | q
      · exact .inr q
      · obtain ⟨e1, e2⟩ := Prod.mk.inj (List.mem_singleton.mp q)
        refine .inl ?_
        rw [e2, e1]
        exact sf_gen _ s x (I.okd (n - s) s (by have := I.top_n; omega)) I.top_f h
  srt := (List.pairwise_append.mp I.srt).1
  tf := fun t ht => I.tf t (List.mem_append_left _ ht)
  tw := fun t ht => I.tw t (List.mem_append_left _ ht)
  tg := fun t ht => I.tg t (List.mem_append_left _ ht)
  tl := fun t ht => I.tl t (List.mem_append_left _ ht)
/-- it is let in: what its step must keep -/
theorem AInv.fresh (I : AInv w S (T ++ [(s, x)])) (h : ¬ sf (S.drop s) s x) : ∃ st, S[s]? = some st ∧ s < n ∧ x ∉ st.makers ∧
    (∀ k u m, st.lifts.lookup k = some u → m ∈ st.makers → ∃ u', st.lifts.lookup (app m k) = some u' ∧ Gen (mkOf (S.drop (s + 1))) (u * m * u'.inv)) := by
  have hn : s < n := by
    refine Nat.lt_of_le_of_ne I.top_n fun e => h ?_
    rw [List.drop_eq_nil_of_le (by rw [I.len]; omega)]
    exact True.intro
  have hs : s < S.length := by rw [I.len]; exact hn
  have e : S[s]? = some S[s] := List.getElem?_eq_getElem hs
  have cp : Cp (S.drop s) s := I.cpd I.top_le (n - s) s (by omega) (Nat.le_refl _)
  have ok : Ok (S.drop s) s := I.okd (n - s) s (by omega)
  refine ⟨_, e, hn, fun hx => h ?_, ?_⟩
  · refine gen_in ok cp (.base ?_)
    rw [drop_at e]
    exact hx
  · intro k u m hk hm
    obtain ⟨u', e', q⟩ := I.cp s _ e k u m hk hm
    refine ⟨u', e', ?_⟩
    rcases q with q | q
    · exact q
    · have := I.top_le _ q
      simp at this
      omega
theorem AInv.grow (I : AInv w S (T ++ [(s, x)])) {st : Stp n} {L : List (Nat × Pn n)} {ts : List (Pn n)} (e : S[s]? = some st) (hn : s < n) (hx : x ∉ st.makers)
    (G : GEnd (S.drop (s + 1)) s st.lifts (st.makers ++ [x]) L ts) : AInv w (S.set s ⟨L, st.makers ++ [x]⟩) (T ++ ts.map fun g => (s + 1, g)) := by
  have hs : s < S.length := (List.getElem?_eq_some_iff.mp e).1
  have here : (S.set s ⟨L, st.makers ++ [x]⟩)[s]? = some ⟨L, st.makers ++ [x]⟩ := List.getElem?_set_self hs
  have there : ∀ {t : Nat}, t ≠ s → (S.set s ⟨L, st.makers ++ [x]⟩)[t]? = S[t]? := fun h => List.getElem?_set_ne (Ne.symm h)
  have cs : ∀ {t : Nat} {z : Stp n}, (S.set s ⟨L, st.makers ++ [x]⟩)[t]? = some z → (t = s ∧ z = ⟨L, st.makers ++ [x]⟩) ∨ (t ≠ s ∧ S[t]? = some z) := fun {t z} h => by
    by_cases q : t = s
    · subst q
      rw [here] at h
      exact .inl ⟨rfl, (Option.some.inj h).symm⟩
    · rw [there q] at h
      exact .inr ⟨q, h⟩
  have winM : ∀ m, m ∈ st.makers ++ [x] → Win w m := fun m hm => by
    rcases List.mem_append.mp hm with q | q
    · exact I.win s st e m q
    · rw [List.mem_singleton.mp q]
      exact I.top_w
  have mkm : ∀ {t : Nat} {z z' : Stp n}, S[t]? = some z → (S.set s ⟨L, st.makers ++ [x]⟩)[t]? = some z' → ∀ m, m ∈ z.makers → m ∈ z'.makers := fun {t z z'} h h' m hm => by
    rcases cs h' with ⟨rfl, rfl⟩ | ⟨_, q⟩
    · rw [e] at h
      cases h
      exact List.mem_append_left _ hm
    · rw [h] at q
      cases q
      exact hm
  have mkD : ∀ {t : Nat} (m : Pn n), mkOf (S.drop t) m → mkOf ((S.set s ⟨L, st.makers ++ [x]⟩).drop t) m := fun {t} m hm => by
    cases h : S[t]? with
    | none =>
      rw [List.drop_eq_nil_of_le (List.getElem?_eq_none_iff.mp h)] at hm
      exact hm.elim
    | some z =>
      rw [drop_at h] at hm
      obtain ⟨z', h'⟩ : ∃ z', (S.set s ⟨L, st.makers ++ [x]⟩)[t]? = some z' := by
        by_cases q : t = s
        · subst q
          exact ⟨_, here⟩
        · exact ⟨z, by rw [there q]; exact h⟩
      rw [drop_at h']
      exact mkm h h' m hm
  refine ⟨by rw [List.length_set]; exact I.len, fun t z h => ?_, fun t z z' h h' m hm => ?_, fun t z h => ?_, fun t z h m hm => ?_, fun t z h k u m hk hm => ?_, ?_, fun t ht => ?_, fun t ht => ?_, fun t ht s' z et ez => ?_, fun t ht => ?_⟩
  · rcases cs h with ⟨rfl, rfl⟩ | ⟨_, q⟩
    · exact G.ok
    · exact I.ok t z q
  · rcases cs h' with ⟨e', rfl⟩ | ⟨hne', q'⟩
    · rcases cs h with ⟨rfl, rfl⟩ | ⟨_, q⟩
      · omega
      · rcases List.mem_append.mp hm with hm | hm
        · exact I.ch t z st q (by rw [e']; exact e) m hm
        · rw [List.mem_singleton.mp hm]
          exact I.tg (s, x) (List.mem_append_right _ (List.mem_singleton.mpr rfl)) t z e'.symm q
    · rcases cs h with ⟨rfl, rfl⟩ | ⟨_, q⟩
      · exact (I.ch t st z' e q' m hm).mono fun y hy => List.mem_append_left _ hy
      · exact I.ch t z z' q q' m hm
  · rcases cs h with ⟨rfl, rfl⟩ | ⟨_, q⟩
    · show (st.makers ++ [x]).Nodup
      refine List.nodup_append.mpr ⟨I.nd t st e, by simp, ?_⟩
      intro a ha b hb eab
      rw [eab, List.mem_singleton.mp hb] at ha
      exact hx ha
    · exact I.nd t z q
  · rcases cs h with ⟨rfl, rfl⟩ | ⟨_, q⟩
    · exact winM m hm
    · exact I.win t z q m hm
  · rcases cs h with ⟨rfl, rfl⟩ | ⟨hne, q⟩
    · obtain ⟨u', e', q⟩ := G.cp k u m hk hm
      refine ⟨u', e', ?_⟩
      rcases q with q | q
      · refine .inl ?_
        rw [List.drop_set_of_lt (by omega)]
        exact q
      · exact .inr (List.mem_append_right _ (List.mem_map.mpr ⟨_, q, rfl⟩))
    · obtain ⟨u', e', q'⟩ := I.cp t z q k u m hk hm
      rcases q' with q' | q'
      · exact ⟨u', e', .inl (q'.mono mkD)⟩
      · rcases List.mem_append.mp q' with q' | q'
        · exact ⟨u', e', .inr (List.mem_append_left _ q')⟩
        · obtain ⟨e1, e2⟩ := Prod.mk.inj (List.mem_singleton.mp q')
          refine ⟨u', e', .inl (.base ?_)⟩
          rw [e2, e1, drop_at here]
          exact List.mem_append_right _ (List.mem_singleton.mpr rfl)
  · refine List.pairwise_append.mpr ⟨(List.pairwise_append.mp I.srt).1, ?_, fun a ha b hb => ?_⟩
    · exact List.pairwise_map.mpr (List.pairwise_of_forall fun _ _ => Nat.le_refl _)
    · obtain ⟨g, _, rfl⟩ := List.mem_map.mp hb
      have := I.top_le a (List.mem_append_left _ ha)
      show a.1 ≤ s + 1
      omega
  · rcases List.mem_append.mp ht with q | q
    · exact I.tf t (List.mem_append_left _ q)
    · obtain ⟨g, hg, rfl⟩ := List.mem_map.mp q
      exact (G.tk g hg).1
  · rcases List.mem_append.mp ht with q | q
    · exact I.tw t (List.mem_append_left _ q)
    · obtain ⟨g, hg, rfl⟩ := List.mem_map.mp q
      exact Win.gen winM (G.tk g hg).2
  · rcases List.mem_append.mp ht with q | q
    · obtain ⟨z0, ez0⟩ : ∃ z0, S[s']? = some z0 := by
        rcases cs ez with ⟨rfl, _⟩ | ⟨_, q⟩
        · exact ⟨_, e⟩
        · exact ⟨_, q⟩
      exact (I.tg t (List.mem_append_left _ q) s' z0 et ez0).mono fun m hm => mkm ez0 ez m hm
    · obtain ⟨g, hg, rfl⟩ := List.mem_map.mp q
      have es : s' = s := by
        have : s + 1 = s' + 1 := et
        omega
      subst es
      rw [here] at ez
      cases ez
      exact (G.tk g hg).2
  · rcases List.mem_append.mp ht with q | q
    · exact I.tl t (List.mem_append_left _ q)
    · obtain ⟨g, hg, rfl⟩ := List.mem_map.mp q
      show s + 1 ≤ n
      omega
end
end
end K43
/-! M4: how many permutations move a window of four places at most; measures; begin and end of add; rest. -/
namespace K43
/-- all rows of k unlike things of w -/
def arr : Nat → List Nat → List (List Nat)
  | 0, _ => [[]]
  | k + 1, w => w.flatMap fun a => (arr k (w.erase a)).map fun q => a :: q
theorem arr_mem : ∀ (k : Nat) (w q : List Nat), q.length = k → q.Nodup → (∀ x, x ∈ q → x ∈ w) → q ∈ arr k w
  | 0, w, q, h, _, _ => by
    rw [List.eq_nil_of_length_eq_zero h]
    exact List.mem_singleton.mpr rfl
  | k + 1, w, [], h, _, _ => by simp at h
  | k + 1, w, a :: q, h, hn, hs => by
    obtain ⟨ha, hq⟩ := List.nodup_cons.mp hn
    refine List.mem_flatMap.mpr ⟨a, hs a List.mem_cons_self, List.mem_map.mpr ⟨q, arr_mem k _ q (by simpa using h) hq fun x hx => ?_, rfl⟩⟩
    exact (List.mem_erase_of_ne (fun (e : x = a) => ha (by rw [← e]; exact hx))).mpr (hs x (List.mem_cons_of_mem _ hx))
def fac : Nat → Nat
  | 0 => 1
  | k + 1 => (k + 1) * fac k
theorem sum_const {α : Type} {f : α → Nat} {c : Nat} : ∀ {l : List α}, (∀ x, x ∈ l → f x = c) → (l.map f).sum = l.length * c
  | [], _ => by simp
  | a :: l, h => by
    rw [List.map_cons, List.sum_cons, sum_const (l := l) fun x hx => h x (List.mem_cons_of_mem _ hx), h a List.mem_cons_self, List.length_cons, Nat.succ_mul]
    omega
theorem arr_len : ∀ (k : Nat) (w : List Nat), w.length = k → (arr k w).length = fac k
  | 0, _, _ => rfl
  | k + 1, w, h => by
    unfold arr
    rw [List.length_flatMap, sum_const (c := fac k) fun a ha => ?_, h]
    · rfl
    · rw [List.length_map]
      exact arr_len k _ (by rw [List.length_erase_of_mem ha, h]; rfl)
/-- the permutations that leave all outside w -/
def listW (n : Nat) (w : List Nat) : List (List Nat) := (arr w.length w).map fun q => (List.range n).map fun i => if i ∈ w then q.getD (w.idxOf i) 0 else i
theorem listW_len {n : Nat} {w : List Nat} (h : w.length ≤ 4) : (listW n w).length ≤ 24 := by
  unfold listW
  rw [List.length_map, arr_len _ _ rfl]
  match w.length, h with
  | 0, _ => decide
  | 1, _ => decide
  | 2, _ => decide
  | 3, _ => decide
  | 4, _ => decide
section
variable {n : Nat}
theorem listW_mem {w : List Nat} (hw : w.Nodup) {x : Pn n} (h : Win w x) : x.1 ∈ listW n w := by
  refine List.mem_map.mpr ⟨w.map (app x), arr_mem _ _ _ (List.length_map ..) ?_ fun y hy => ?_, ?_⟩
  · exact List.nodup_iff_pairwise_ne.mpr (List.pairwise_map.mpr ((List.nodup_iff_pairwise_ne.mp hw).imp fun {a b} hab e => hab (app_inj x e)))
  · obtain ⟨i, hi, rfl⟩ := List.mem_map.mp hy
    by_cases q : app x i ∈ w
    · exact q
    · have e := h _ q
      have e2 := app_inj x e
      rw [e2] at q
      exact absurd hi q
  · refine ap_ext (by rw [List.length_map, List.length_range, x.2.len]) fun i hi => ?_
    rw [List.length_map, List.length_range] at hi
    rw [ap_map (by rw [List.length_range]; exact hi), ap_range]
    by_cases q : i ∈ w
    · rw [if_pos q]
      have hx : w.idxOf i < w.length := List.idxOf_lt_length_of_mem q
      rw [List.getD_eq_getElem?_getD, List.getElem?_map, List.getElem?_eq_getElem hx, List.getElem_idxOf]
      rfl
    · rw [if_neg q]
      exact (h i q).symm
theorem few_win {w : List Nat} (hw : w.Nodup) (h4 : w.length ≤ 4) {M : List (Pn n)} (hn : M.Nodup) (h : ∀ m, m ∈ M → Win w m) : M.length ≤ 24 := by
  have nd : (M.map fun m => m.1).Nodup := List.nodup_iff_pairwise_ne.mpr (List.pairwise_map.mpr ((List.nodup_iff_pairwise_ne.mp hn).imp fun {a b} hab e => hab (Subtype.ext e)))
  have q := List.Nodup.length_le_of_subset nd (l₂ := listW n w) fun y hy => by
    obtain ⟨m, hm, rfl⟩ := List.mem_map.mp hy
    exact listW_mem hw (h m hm)
  rw [List.length_map] at q
  exact Nat.le_trans q (listW_len h4)
/-- how many makers in all -/
def tot (S : List (Stp n)) : Nat := (S.map fun st => st.makers.length).sum
theorem tot_le : ∀ {S : List (Stp n)} {b : Nat}, (∀ st, st ∈ S → st.makers.length ≤ b) → tot S ≤ b * S.length
  | [], b, _ => by simp [tot]
  | st :: S, b, h => by
    have ih := tot_le (S := S) (b := b) fun z hz => h z (List.mem_cons_of_mem _ hz)
    have h0 := h st List.mem_cons_self
    unfold tot at ih ⊢
    rw [List.map_cons, List.sum_cons, List.length_cons, Nat.mul_succ]
    omega
theorem tot_set : ∀ {S : List (Stp n)} {s : Nat} {st z : Stp n}, S[s]? = some st → tot (S.set s z) + st.makers.length = tot S + z.makers.length
  | [], _, _, _, h => by simp at h
  | a :: S, 0, st, z, h => by
    have e : a = st := by simpa using h
    subst e
    unfold tot
    rw [List.set_cons_zero, List.map_cons, List.sum_cons, List.map_cons, List.sum_cons]
    omega
  | a :: S, s + 1, st, z, h => by
    have ih := tot_set (S := S) (s := s) (z := z) (by simpa using h)
    unfold tot at ih ⊢
    rw [List.set_cons_succ, List.map_cons, List.sum_cons, List.map_cons, List.sum_cons]
    omega
/-- how many lifts in all -/
def totL (S : List (Stp n)) : Nat := (S.map fun st => st.lifts.length).sum
theorem totL_set : ∀ {S : List (Stp n)} {s : Nat} {st z : Stp n}, S[s]? = some st → totL (S.set s z) + st.lifts.length = totL S + z.lifts.length
  | [], _, _, _, h => by simp at h
  | a :: S, 0, st, z, h => by
    have e : a = st := by simpa using h
    subst e
    unfold totL
    rw [List.set_cons_zero, List.map_cons, List.sum_cons, List.map_cons, List.sum_cons]
    omega
  | a :: S, s + 1, st, z, h => by
    have ih := totL_set (S := S) (s := s) (z := z) (by simpa using h)
    unfold totL at ih ⊢
    rw [List.set_cons_succ, List.map_cons, List.sum_cons, List.map_cons, List.sum_cons]
    omega
theorem totL_le : ∀ {S : List (Stp n)} {b : Nat}, (∀ st, st ∈ S → st.lifts.length ≤ b) → totL S ≤ b * S.length
  | [], b, _ => by simp [totL]
  | st :: S, b, h => by
    have ih := totL_le (S := S) (b := b) fun z hz => h z (List.mem_cons_of_mem _ hz)
    have h0 := h st List.mem_cons_self
    unfold totL at ih ⊢
    rw [List.map_cons, List.sum_cons, List.length_cons, Nat.mul_succ]
    omega
section
variable {w : List Nat} {S : List (Stp n)} {T : List (Nat × Pn n)} {s : Nat} {x : Pn n}
theorem AInv.few (I : AInv w S T) (hw : w.Nodup) (h4 : w.length ≤ 4) {st : Stp n} (e : S[s]? = some st) : st.makers.length ≤ 24 := few_win hw h4 (I.nd s st e) (I.win s st e)
theorem AInv.tot24 (I : AInv w S T) (hw : w.Nodup) (h4 : w.length ≤ 4) : tot S ≤ 24 * n := by
  have q := tot_le (S := S) (b := 24) fun st hst => by
    obtain ⟨i, hi⟩ := List.mem_iff_getElem?.mp hst
    exact I.few hw h4 hi
  rw [I.len] at q
  exact q
theorem AInv.lifts (I : AInv w S T) {st : Stp n} (e : S[s]? = some st) : st.lifts.length ≤ n := (I.ok s st e).few (by
  have := (List.getElem?_eq_some_iff.mp e).1
  rw [I.len] at this
  exact this)
theorem AInv.totLn (I : AInv w S T) : totL S ≤ n * n := by
  have q := totL_le (S := S) (b := n) fun st hst => by
    obtain ⟨i, hi⟩ := List.mem_iff_getElem?.mp hst
    exact I.lifts hi
  rw [I.len] at q
  exact q
/-- a fresh chain -/
def S0 (n : Nat) : List (Stp n) := (List.range n).map fun s => ⟨[(s, Pn.one n)], []⟩
theorem S0_at {st : Stp n} (h : (S0 n)[s]? = some st) : st = ⟨[(s, Pn.one n)], []⟩ ∧ s < n := by
  unfold S0 at h
  rw [List.getElem?_map] at h
  cases e : (List.range n)[s]? with
  | none => rw [e] at h; cases h
  | some k =>
    rw [e] at h
    obtain ⟨h1, h2⟩ := List.getElem?_eq_some_iff.mp e
    rw [List.getElem_range] at h2
    rw [List.length_range] at h1
    subst h2
    exact ⟨(Option.some.inj h).symm, h1⟩
theorem AInv.zero (w : List Nat) : AInv w (S0 n) [] where
  len := by unfold S0; rw [List.length_map, List.length_range]
  ok := fun s st h => by
    obtain ⟨rfl, _⟩ := S0_at h
    have lk1 : ∀ {k : Nat} {u : Pn n}, List.lookup k [(s, Pn.one n)] = some u → k = s ∧ u = Pn.one n := fun {k u} e => by
      have q := lk_mem e
      obtain ⟨q1, q2⟩ := Prod.mk.inj (List.mem_singleton.mp q)
      exact ⟨q1, q2⟩
    refine ⟨by simp, by rw [List.lookup_cons, beq_self_eq_true], fun k u e => ?_, fun k u e => ?_, fun k u e => ?_, fun m hm => absurd hm (by simp)⟩
    · obtain ⟨rfl, rfl⟩ := lk1 e
      exact app_one _
    · obtain ⟨rfl, rfl⟩ := lk1 e
      exact Fxs.one
    · obtain ⟨rfl, rfl⟩ := lk1 e
      exact .one
  ch := fun s st st' _ h' m hm => by
    obtain ⟨rfl, _⟩ := S0_at h'
    exact absurd hm (by simp)
  nd := fun s st h => by
    obtain ⟨rfl, _⟩ := S0_at h
    exact List.nodup_nil
  win := fun s st h m hm => by
    obtain ⟨rfl, _⟩ := S0_at h
    exact absurd hm (by simp)
  cp := fun s st h k u m _ hm => by
    obtain ⟨rfl, _⟩ := S0_at h
    exact absurd hm (by simp)
  srt := .nil
  tf := fun _ h => absurd h (by simp)
  tw := fun _ h => absurd h (by simp)
  tg := fun _ h => absurd h (by simp)
  tl := fun _ h => absurd h (by simp)
/-- one is handed in -/
theorem AInv.begin_ (I : AInv w S []) (hx : Win w x) : AInv w S [(0, x)] where
  len := I.len
  ok := I.ok
  ch := I.ch
  nd := I.nd
  win := I.win
  cp := fun s st h k u m hk hm => by
    obtain ⟨u', e', q⟩ := I.cp s st h k u m hk hm
    rcases q with q | q
    · exact ⟨u', e', .inl q⟩
    · exact absurd q (by simp)
  srt := List.pairwise_singleton ..
  tf := fun t ht => by
    rw [List.mem_singleton.mp ht]
    exact fun j hj => absurd hj (Nat.not_lt_zero j)
  tw := fun t ht => by
    rw [List.mem_singleton.mp ht]
    exact hx
  tg := fun t ht s st e => by
    rw [List.mem_singleton.mp ht] at e
    exact absurd e (by simp)
  tl := fun t ht => by
    rw [List.mem_singleton.mp ht]
    exact Nat.zero_le _
/-- what was told is made, or will be -/
def Told (told : List (Pn n)) (S : List (Stp n)) (T : List (Nat × Pn n)) : Prop := ∀ y, y ∈ told → Gen (mkOf S) y ∨ (0, y) ∈ T
theorem AInv.ok0 (I : AInv w S T) : Ok S 0 := I.okd n 0 (by omega)
theorem Told.skip {told : List (Pn n)} (I : AInv w S (T ++ [(s, x)])) (t : Told told S (T ++ [(s, x)])) (h : sf (S.drop s) s x) : Told told S T := fun y hy => by
  rcases t y hy with q | q
  · exact .inl q
  · rcases List.mem_append.mp q with q | q
    · exact .inr q
    · obtain ⟨e1, e2⟩ := Prod.mk.inj (List.mem_singleton.mp q)
      subst e1 e2
      exact .inl (sf_gen S 0 y I.ok0 (fun j hj => absurd hj (Nat.not_lt_zero j)) h)
theorem Told.grow {told : List (Pn n)} {st : Stp n} {L : List (Nat × Pn n)} {T2 : List (Nat × Pn n)} (t : Told told S (T ++ [(s, x)])) (e : S[s]? = some st) : Told told (S.set s ⟨L, st.makers ++ [x]⟩) (T ++ T2) := fun y hy => by
  cases S with
  | nil => simp at e
  | cons a r =>
    cases s with
    | zero =>
      have ea : a = st := by simpa using e
      subst ea
      rcases t y hy with q | q
      · exact .inl (q.mono fun m hm => List.mem_append_left _ hm)
      · rcases List.mem_append.mp q with q | q
        · exact .inr (List.mem_append_left _ q)
        · obtain ⟨_, e2⟩ := Prod.mk.inj (List.mem_singleton.mp q)
          exact .inl (.base (by rw [e2]; exact List.mem_append_right _ (List.mem_singleton.mpr rfl)))
    | succ s =>
      rcases t y hy with q | q
      · exact .inl (q.mono fun m hm => hm)
      · rcases List.mem_append.mp q with q | q
        · exact .inr (List.mem_append_left _ q)
        · exact absurd (Prod.mk.inj (List.mem_singleton.mp q)).1 (by omega)
theorem AInv.all_sift {told : List (Pn n)} (I : AInv w S []) (t : Told told S []) {g : Pn n} (hg : Gen (fun m => m ∈ told) g) : sf S 0 g := by
  have cp : Cp S 0 := I.cpd (b := 0) (fun _ h => absurd h (by simp)) n 0 (by omega) (Nat.le_refl _)
  refine gen_in I.ok0 cp (hg.sub fun m hm => ?_)
  rcases t m hm with q | q
  · exact q
  · exact absurd q (by simp)
end
/-- where sifting ends, and with what -/
def rst : List (Stp n) → Nat → Pn n → Nat × Pn n
  | [], s, x => (s, x)
  | st :: r, s, x => match st.lifts.lookup (app x s) with
    | none => (s, x)
    | some u => rst r (s + 1) (if app x s = s then x else x * u.inv)
theorem rst_sf : ∀ (S : List (Stp n)) (s : Nat) (x : Pn n), (∀ (i : Nat) (st : Stp n), S[i]? = some st → st.lifts.lookup (s + i) = some (Pn.one n)) →
    ((rst S s x).1 = s + S.length ∧ sf S s x) ∨ ((rst S s x).1 < s + S.length ∧ ¬ sf S s x)
  | [], s, x, _ => .inl ⟨rfl, True.intro⟩
  | st :: r, s, x, h => by
    have h0 := h 0 st rfl
    unfold rst sf
    cases e : st.lifts.lookup (app x s) with
    | none =>
      refine .inr ⟨?_, fun ⟨u, q, _⟩ => nomatch q⟩
      show s < s + (r.length + 1)
      omega
    | some u =>
      have ey : (if app x s = s then x else x * u.inv) = x * u.inv := by
        by_cases q : app x s = s
        · rw [if_pos q]
          rw [q] at e
          have h0 : st.lifts.lookup s = some (Pn.one n) := h0
          rw [h0] at e
          cases e
          rw [inv_one, mul_one]
        · rw [if_neg q]
      have ih := rst_sf r (s + 1) (x * u.inv) fun i z hz => by
        have q := h (i + 1) z hz
        rw [Nat.add_right_comm]
        exact q
      have el : s + 1 + r.length = s + (st :: r).length := by rw [List.length_cons]; omega
      rw [el] at ih
      show ((rst r (s + 1) (if app x s = s then x else x * u.inv)).1 = _ ∧ _) ∨ ((rst r (s + 1) (if app x s = s then x else x * u.inv)).1 < _ ∧ _)
      rw [ey]
      rcases ih with ⟨a, b⟩ | ⟨a, b⟩
      · exact .inl ⟨a, u, rfl, b⟩
      · exact .inr ⟨a, fun ⟨u', q, z⟩ => by cases q; exact b z⟩
end
end K43
/-! W0: the text by places, the facts of the top by names, a call by a promise. -/
namespace K43
open PySem PySem.Spec PyProof.Rows L2
def topS (i : Nat) : Stmt := PySem.Challenge.pw_turnbase_k43_rings_closed.main.body.getD i (.Pass ⟨0, 0, 0, 0⟩)
abbrev sIsWhole : Stmt := topS 10
abbrev sIsTurning : Stmt := topS 11
abbrev sStill : Stmt := topS 12
abbrev sBehind : Stmt := topS 13
abbrev sBack : Stmt := topS 14
abbrev sTurned : Stmt := topS 15
abbrev sStepInit : Stmt := inClass (topS 17) 0
abbrev sChainInit : Stmt := inClass (topS 18) 0
abbrev sChainNoted : Stmt := inClass (topS 18) 1
abbrev sChainLineOf : Stmt := inClass (topS 18) 2
abbrev sChainRest : Stmt := inClass (topS 18) 3
abbrev sChainHas : Stmt := inClass (topS 18) 4
abbrev sChainAdd : Stmt := inClass (topS 18) 7
abbrev sChainGrown : Stmt := inClass (topS 18) 8
abbrev sIsOf : Stmt := topS 22
abbrev sLookedMakers : Stmt := topS 23
abbrev sGroupInit : Stmt := inClass (topS 24) 0
abbrev sGroupTold : Stmt := inClass (topS 24) 1
abbrev sGroupHas : Stmt := inClass (topS 24) 3
abbrev sRingInit : Stmt := inClass (topS 26) 0
abbrev sRingSpread : Stmt := inClass (topS 26) 1
abbrev sRingThings : Stmt := inClass (topS 26) 2
abbrev sRingWay : Stmt := inClass (topS 26) 3
abbrev sRingBringer : Stmt := inClass (topS 26) 5
abbrev sRowOf : Stmt := topS 30
abbrev sPlacesOf : Stmt := topS 31
abbrev sInOrder : Stmt := topS 32
abbrev sPairOf : Stmt := topS 33
abbrev sPlacesInit : Stmt := inClass (topS 34) 0
abbrev sListsInit : Stmt := inClass (topS 34) 0
abbrev sSetsInit : Stmt := inClass (topS 34) 0
abbrev sNetsInit : Stmt := inClass (topS 34) 0
abbrev sTurnsInit : Stmt := inClass (topS 34) 0
abbrev sPlacesLooked : Stmt := inClass (topS 35) 0
abbrev sPlacesMoved : Stmt := inClass (topS 35) 1
abbrev sListsLooked : Stmt := inClass (topS 36) 0
abbrev sListsMoved : Stmt := inClass (topS 36) 1
abbrev sSetsLooked : Stmt := inClass (topS 37) 0
abbrev sSetsMoved : Stmt := inClass (topS 37) 1
abbrev sNetsLooked : Stmt := inClass (topS 38) 0
abbrev sNetsMoved : Stmt := inClass (topS 38) 1
abbrev sTurnsLooked : Stmt := inClass (topS 39) 0
abbrev sTurnsMoved : Stmt := inClass (topS 39) 1
abbrev sLawCell : Stmt := topS 41
abbrev sLawWhole : Stmt := topS 42
abbrev sLawPlain : Stmt := topS 43
abbrev sLawOrder : Stmt := topS 44
abbrev sLawMaker : Stmt := topS 45
abbrev sLawThing : Stmt := topS 46
abbrev sLawForm : Stmt := topS 47
abbrev sLawMoved : Stmt := topS 48
abbrev sLawAct : Stmt := topS 49
abbrev sLawTurning : Stmt := topS 50
abbrev sLawClosed : Stmt := topS 51
abbrev sLawGood : Stmt := topS 52
abbrev sLaw : Stmt := topS 53
abbrev FnP (K : PySem.W.Frag) (x q : Str) (st : Stmt) (f : Addr) (fd : FuncData) : Prop := FunD K x q (defArgs st) (defBody st) (defScope st) [] [] f fd
def dIsWhole : He.DefD := ⟨("is_whole", none), "is_whole", "is_whole", defArgs sIsWhole, defBody sIsWhole, defScope sIsWhole, [], []⟩
def dIsTurning : He.DefD := ⟨("is_turning", none), "is_turning", "is_turning", defArgs sIsTurning, defBody sIsTurning, defScope sIsTurning, [], []⟩
def dStill : He.DefD := ⟨("still", none), "still", "still", defArgs sStill, defBody sStill, defScope sStill, [], []⟩
def dBehind : He.DefD := ⟨("behind", none), "behind", "behind", defArgs sBehind, defBody sBehind, defScope sBehind, [], []⟩
def dBack : He.DefD := ⟨("back", none), "back", "back", defArgs sBack, defBody sBack, defScope sBack, [], []⟩
def dTurned : He.DefD := ⟨("turned", none), "turned", "turned", defArgs sTurned, defBody sTurned, defScope sTurned, [], []⟩
def dStepInit : He.DefD := ⟨("Step", some "__init__"), "__init__", "Step.__init__", defArgs sStepInit, defBody sStepInit, defScope sStepInit, [], []⟩
def dChainInit : He.DefD := ⟨("Chain", some "__init__"), "__init__", "Chain.__init__", defArgs sChainInit, defBody sChainInit, defScope sChainInit, [], []⟩
def dChainNoted : He.DefD := ⟨("Chain", some "noted"), "noted", "Chain.noted", defArgs sChainNoted, defBody sChainNoted, defScope sChainNoted, [], []⟩
def dChainLineOf : He.DefD := ⟨("Chain", some "line_of"), "line_of", "Chain.line_of", defArgs sChainLineOf, defBody sChainLineOf, defScope sChainLineOf, [], []⟩
def dChainRest : He.DefD := ⟨("Chain", some "rest"), "rest", "Chain.rest", defArgs sChainRest, defBody sChainRest, defScope sChainRest, [], []⟩
def dChainHas : He.DefD := ⟨("Chain", some "has"), "has", "Chain.has", defArgs sChainHas, defBody sChainHas, defScope sChainHas, [], []⟩
def dChainAdd : He.DefD := ⟨("Chain", some "add"), "add", "Chain.add", defArgs sChainAdd, defBody sChainAdd, defScope sChainAdd, [], []⟩
def dChainGrown : He.DefD := ⟨("Chain", some "grown"), "grown", "Chain.grown", defArgs sChainGrown, defBody sChainGrown, defScope sChainGrown, [], []⟩
def dIsOf : He.DefD := ⟨("is_of", none), "is_of", "is_of", defArgs sIsOf, defBody sIsOf, defScope sIsOf, [], []⟩
def dLookedMakers : He.DefD := ⟨("looked_makers", none), "looked_makers", "looked_makers", defArgs sLookedMakers, defBody sLookedMakers, defScope sLookedMakers, [], []⟩
def dGroupInit : He.DefD := ⟨("Group", some "__init__"), "__init__", "Group.__init__", defArgs sGroupInit, defBody sGroupInit, defScope sGroupInit, [], []⟩
def dGroupTold : He.DefD := ⟨("Group", some "told"), "told", "Group.told", defArgs sGroupTold, defBody sGroupTold, defScope sGroupTold, [], []⟩
def dGroupHas : He.DefD := ⟨("Group", some "has"), "has", "Group.has", defArgs sGroupHas, defBody sGroupHas, defScope sGroupHas, [], []⟩
def dRingInit : He.DefD := ⟨("Ring", some "__init__"), "__init__", "Ring.__init__", defArgs sRingInit, defBody sRingInit, defScope sRingInit, [.int 1000], []⟩
def dRingSpread : He.DefD := ⟨("Ring", some "spread"), "spread", "Ring.spread", defArgs sRingSpread, defBody sRingSpread, defScope sRingSpread, [], []⟩
def dRingThings : He.DefD := ⟨("Ring", some "things"), "things", "Ring.things", defArgs sRingThings, defBody sRingThings, defScope sRingThings, [], []⟩
def dRingWay : He.DefD := ⟨("Ring", some "way"), "way", "Ring.way", defArgs sRingWay, defBody sRingWay, defScope sRingWay, [], []⟩
def dRingBringer : He.DefD := ⟨("Ring", some "bringer"), "bringer", "Ring.bringer", defArgs sRingBringer, defBody sRingBringer, defScope sRingBringer, [], []⟩
def dRowOf : He.DefD := ⟨("row_of", none), "row_of", "row_of", defArgs sRowOf, defBody sRowOf, defScope sRowOf, [], []⟩
def dPlacesOf : He.DefD := ⟨("places_of", none), "places_of", "places_of", defArgs sPlacesOf, defBody sPlacesOf, defScope sPlacesOf, [], []⟩
def dInOrder : He.DefD := ⟨("in_order", none), "in_order", "in_order", defArgs sInOrder, defBody sInOrder, defScope sInOrder, [], []⟩
def dPairOf : He.DefD := ⟨("pair_of", none), "pair_of", "pair_of", defArgs sPairOf, defBody sPairOf, defScope sPairOf, [], []⟩
def dPlacesInit : He.DefD := ⟨("Places", some "__init__"), "__init__", "Act.__init__", defArgs sPlacesInit, defBody sPlacesInit, defScope sPlacesInit, [], []⟩
def dListsInit : He.DefD := ⟨("Lists", some "__init__"), "__init__", "Act.__init__", defArgs sListsInit, defBody sListsInit, defScope sListsInit, [], []⟩
def dSetsInit : He.DefD := ⟨("Sets", some "__init__"), "__init__", "Act.__init__", defArgs sSetsInit, defBody sSetsInit, defScope sSetsInit, [], []⟩
def dNetsInit : He.DefD := ⟨("Nets", some "__init__"), "__init__", "Act.__init__", defArgs sNetsInit, defBody sNetsInit, defScope sNetsInit, [], []⟩
def dTurnsInit : He.DefD := ⟨("Turns", some "__init__"), "__init__", "Act.__init__", defArgs sTurnsInit, defBody sTurnsInit, defScope sTurnsInit, [], []⟩
def dPlacesLooked : He.DefD := ⟨("Places", some "looked"), "looked", "Places.looked", defArgs sPlacesLooked, defBody sPlacesLooked, defScope sPlacesLooked, [], []⟩
def dPlacesMoved : He.DefD := ⟨("Places", some "moved"), "moved", "Places.moved", defArgs sPlacesMoved, defBody sPlacesMoved, defScope sPlacesMoved, [], []⟩
def dListsLooked : He.DefD := ⟨("Lists", some "looked"), "looked", "Lists.looked", defArgs sListsLooked, defBody sListsLooked, defScope sListsLooked, [], []⟩
def dListsMoved : He.DefD := ⟨("Lists", some "moved"), "moved", "Lists.moved", defArgs sListsMoved, defBody sListsMoved, defScope sListsMoved, [], []⟩
def dSetsLooked : He.DefD := ⟨("Sets", some "looked"), "looked", "Sets.looked", defArgs sSetsLooked, defBody sSetsLooked, defScope sSetsLooked, [], []⟩
def dSetsMoved : He.DefD := ⟨("Sets", some "moved"), "moved", "Sets.moved", defArgs sSetsMoved, defBody sSetsMoved, defScope sSetsMoved, [], []⟩
def dNetsLooked : He.DefD := ⟨("Nets", some "looked"), "looked", "Nets.looked", defArgs sNetsLooked, defBody sNetsLooked, defScope sNetsLooked, [], []⟩
def dNetsMoved : He.DefD := ⟨("Nets", some "moved"), "moved", "Nets.moved", defArgs sNetsMoved, defBody sNetsMoved, defScope sNetsMoved, [], []⟩
def dTurnsLooked : He.DefD := ⟨("Turns", some "looked"), "looked", "Turns.looked", defArgs sTurnsLooked, defBody sTurnsLooked, defScope sTurnsLooked, [], []⟩
def dTurnsMoved : He.DefD := ⟨("Turns", some "moved"), "moved", "Turns.moved", defArgs sTurnsMoved, defBody sTurnsMoved, defScope sTurnsMoved, [], []⟩
def dLawCell : He.DefD := ⟨("_law_cell", none), "_law_cell", "_law_cell", defArgs sLawCell, defBody sLawCell, defScope sLawCell, [], []⟩
def dLawWhole : He.DefD := ⟨("_law_whole", none), "_law_whole", "_law_whole", defArgs sLawWhole, defBody sLawWhole, defScope sLawWhole, [], []⟩
def dLawPlain : He.DefD := ⟨("_law_plain", none), "_law_plain", "_law_plain", defArgs sLawPlain, defBody sLawPlain, defScope sLawPlain, [], []⟩
def dLawOrder : He.DefD := ⟨("_law_order", none), "_law_order", "_law_order", defArgs sLawOrder, defBody sLawOrder, defScope sLawOrder, [], []⟩
def dLawMaker : He.DefD := ⟨("_law_maker", none), "_law_maker", "_law_maker", defArgs sLawMaker, defBody sLawMaker, defScope sLawMaker, [], []⟩
def dLawThing : He.DefD := ⟨("_law_thing", none), "_law_thing", "_law_thing", defArgs sLawThing, defBody sLawThing, defScope sLawThing, [], []⟩
def dLawForm : He.DefD := ⟨("_law_form", none), "_law_form", "_law_form", defArgs sLawForm, defBody sLawForm, defScope sLawForm, [], []⟩
def dLawMoved : He.DefD := ⟨("_law_moved", none), "_law_moved", "_law_moved", defArgs sLawMoved, defBody sLawMoved, defScope sLawMoved, [], []⟩
def dLawAct : He.DefD := ⟨("_law_act", none), "_law_act", "_law_act", defArgs sLawAct, defBody sLawAct, defScope sLawAct, [], []⟩
def dLawTurning : He.DefD := ⟨("_law_turning", none), "_law_turning", "_law_turning", defArgs sLawTurning, defBody sLawTurning, defScope sLawTurning, [], []⟩
def dLawClosed : He.DefD := ⟨("_law_closed", none), "_law_closed", "_law_closed", defArgs sLawClosed, defBody sLawClosed, defScope sLawClosed, [], []⟩
def dLawGood : He.DefD := ⟨("_law_good", none), "_law_good", "_law_good", defArgs sLawGood, defBody sLawGood, defScope sLawGood, [], []⟩
def dLaw : He.DefD := ⟨("law", none), "law", "law", defArgs sLaw, defBody sLaw, defScope sLaw, [], []⟩
def fn : List He.DefD := [dIsWhole, dIsTurning, dStill, dBehind, dBack, dTurned, dStepInit, dChainInit, dChainNoted, dChainLineOf, dChainRest, dChainHas, dChainAdd, dChainGrown, dIsOf, dLookedMakers, dGroupInit, dGroupTold, dGroupHas, dRingInit, dRingSpread, dRingThings, dRingWay, dRingBringer, dRowOf, dPlacesOf, dInOrder, dPairOf, dPlacesInit, dListsInit] ++ [dSetsInit, dNetsInit, dTurnsInit, dPlacesLooked, dPlacesMoved, dListsLooked, dListsMoved, dSetsLooked, dSetsMoved, dNetsLooked, dNetsMoved, dTurnsLooked, dTurnsMoved, dLawCell, dLawWhole, dLawPlain, dLawOrder, dLawMaker, dLawThing, dLawForm, dLawMoved, dLawAct, dLawTurning, dLawClosed, dLawGood, dLaw]
def fa0 : List He.Fa := [.glo "is_whole", .glo "is_turning", .glo "still", .glo "behind", .glo "back", .glo "turned", .glo "is_of", .glo "looked_makers", .glo "row_of", .glo "places_of", .glo "in_order", .glo "pair_of", .glo "_law_cell", .glo "_law_whole", .glo "_law_plain", .glo "_law_order", .glo "_law_maker", .glo "_law_thing", .glo "_law_form", .glo "_law_moved", .glo "_law_act", .glo "_law_turning", .glo "_law_closed", .glo "_law_good", .glo "law", .glo "Step", .glo "Chain", .glo "Group", .glo "Ring", .glo "Places", .glo "Lists", .glo "Sets", .glo "Nets", .glo "Turns", .free "isinstance"]
def fa1 : List He.Fa := [.free "int", .free "bool", .free "tuple", .free "list", .free "len", .free "range", .free "enumerate", .free "sorted", .free "set", .free "reversed", .free "divmod", .free "all", .free "min", .free "max", .int "MOST" 60, .int "MOST_PLACES_groups" 60, .int "MOST_MAKERS" 200, .int "MOST_PLACES_acts" 60, .int "MOST_PAIRS" 200, .cls "Step", .cls "Chain", .cls "Group", .cls "Ring", .cls "Places", .cls "Lists", .cls "Sets", .cls "Nets", .cls "Turns", .noat "Step" "place", .noat "Step" "lifts", .noat "Step" "makers", .noat "Chain" "many", .noat "Chain" "lines", .noat "Chain" "steps", .noat "Group" "made"]
def fa2 : List He.Fa := [.noat "Group" "many", .noat "Group" "chain", .noat "Group" "steps", .noat "Ring" "group", .noat "Ring" "act", .noat "Ring" "makers", .noat "Ring" "rows", .noat "Places" "many", .noat "Lists" "many", .noat "Sets" "many", .noat "Nets" "many", .noat "Turns" "many", .meth "Chain" "noted", .meth "Chain" "line_of", .meth "Chain" "rest", .meth "Chain" "has", .meth "Chain" "add", .meth "Chain" "grown", .meth "Group" "told", .meth "Group" "has", .meth "Ring" "spread", .meth "Ring" "things", .meth "Ring" "way", .meth "Ring" "bringer", .meth "Places" "looked", .meth "Places" "moved", .meth "Lists" "looked", .meth "Lists" "moved", .meth "Sets" "looked", .meth "Sets" "moved", .meth "Nets" "looked", .meth "Nets" "moved", .meth "Turns" "looked", .meth "Turns" "moved", .mkr "Step"]
def fa3 : List He.Fa := [.mkr "Chain", .mkr "Group", .mkr "Ring", .mkr "Places", .mkr "Lists", .mkr "Sets", .mkr "Nets", .mkr "Turns"]
def fa : List He.Fa := fa0 ++ fa1 ++ fa2 ++ fa3
def lo0 : List PySem.Str := ["_wall", "__name__", "TurnError", "NoTurning", "NoGroup", "NotIn", "TooMany", "NoThing", "MOST", "is_whole", "is_turning", "still", "behind", "back"]
def lo1 : List PySem.Str := ["turned", "Step", "Chain", "MOST_PLACES_groups", "MOST_MAKERS", "is_of", "looked_makers", "Group", "Ring", "MOST_PLACES_acts", "MOST_PAIRS", "row_of", "places_of", "in_order"]
def lo2 : List PySem.Str := ["pair_of", "Act", "Places", "Lists", "Sets", "Nets", "Turns", "_law_cell", "_law_whole", "_law_plain", "_law_order", "_law_maker", "_law_thing", "_law_form"]
def lo3 : List PySem.Str := ["_law_moved", "_law_act", "_law_turning", "_law_closed", "_law_good"]
def lo : List PySem.Str := lo0 ++ lo1 ++ lo2 ++ lo3
structure Tx (K : PySem.W.Frag) (mg : Str → Option Value) : Prop where
  c : He.SaysD fa fn K
  gl : ∀ x, (He.Fa.glo x).ok K = true → mg x = some (.ref (He.ga K x))
  fr : ∀ x, (He.Fa.free x).ok K = true → mg x = none
  nu : ∀ x i, (He.Fa.int x i).ok K = true → ∃ t, mg x = some (.int i t)
section
variable {K : PySem.W.Frag} {mg : Str → Option Value} (T : Tx K mg)
include T
theorem Tx.g_is_whole : mg "is_whole" = some (.ref (He.ga K "is_whole")) := T.gl _ (T.c.fact 0 rfl)
theorem Tx.g_is_turning : mg "is_turning" = some (.ref (He.ga K "is_turning")) := T.gl _ (T.c.fact 1 rfl)
theorem Tx.g_still : mg "still" = some (.ref (He.ga K "still")) := T.gl _ (T.c.fact 2 rfl)
theorem Tx.g_behind : mg "behind" = some (.ref (He.ga K "behind")) := T.gl _ (T.c.fact 3 rfl)
theorem Tx.g_back : mg "back" = some (.ref (He.ga K "back")) := T.gl _ (T.c.fact 4 rfl)
theorem Tx.g_turned : mg "turned" = some (.ref (He.ga K "turned")) := T.gl _ (T.c.fact 5 rfl)
theorem Tx.g_is_of : mg "is_of" = some (.ref (He.ga K "is_of")) := T.gl _ (T.c.fact 6 rfl)
theorem Tx.g_looked_makers : mg "looked_makers" = some (.ref (He.ga K "looked_makers")) := T.gl _ (T.c.fact 7 rfl)
theorem Tx.g_row_of : mg "row_of" = some (.ref (He.ga K "row_of")) := T.gl _ (T.c.fact 8 rfl)
theorem Tx.g_places_of : mg "places_of" = some (.ref (He.ga K "places_of")) := T.gl _ (T.c.fact 9 rfl)
theorem Tx.g_in_order : mg "in_order" = some (.ref (He.ga K "in_order")) := T.gl _ (T.c.fact 10 rfl)
theorem Tx.g_pair_of : mg "pair_of" = some (.ref (He.ga K "pair_of")) := T.gl _ (T.c.fact 11 rfl)
theorem Tx.g__law_cell : mg "_law_cell" = some (.ref (He.ga K "_law_cell")) := T.gl _ (T.c.fact 12 rfl)
theorem Tx.g__law_whole : mg "_law_whole" = some (.ref (He.ga K "_law_whole")) := T.gl _ (T.c.fact 13 rfl)
theorem Tx.g__law_plain : mg "_law_plain" = some (.ref (He.ga K "_law_plain")) := T.gl _ (T.c.fact 14 rfl)
theorem Tx.g__law_order : mg "_law_order" = some (.ref (He.ga K "_law_order")) := T.gl _ (T.c.fact 15 rfl)
theorem Tx.g__law_maker : mg "_law_maker" = some (.ref (He.ga K "_law_maker")) := T.gl _ (T.c.fact 16 rfl)
theorem Tx.g__law_thing : mg "_law_thing" = some (.ref (He.ga K "_law_thing")) := T.gl _ (T.c.fact 17 rfl)
theorem Tx.g__law_form : mg "_law_form" = some (.ref (He.ga K "_law_form")) := T.gl _ (T.c.fact 18 rfl)
theorem Tx.g__law_moved : mg "_law_moved" = some (.ref (He.ga K "_law_moved")) := T.gl _ (T.c.fact 19 rfl)
theorem Tx.g__law_act : mg "_law_act" = some (.ref (He.ga K "_law_act")) := T.gl _ (T.c.fact 20 rfl)
theorem Tx.g__law_turning : mg "_law_turning" = some (.ref (He.ga K "_law_turning")) := T.gl _ (T.c.fact 21 rfl)
theorem Tx.g__law_closed : mg "_law_closed" = some (.ref (He.ga K "_law_closed")) := T.gl _ (T.c.fact 22 rfl)
theorem Tx.g__law_good : mg "_law_good" = some (.ref (He.ga K "_law_good")) := T.gl _ (T.c.fact 23 rfl)
theorem Tx.g_law : mg "law" = some (.ref (He.ga K "law")) := T.gl _ (T.c.fact 24 rfl)
theorem Tx.g_Step : mg "Step" = some (.ref (He.ga K "Step")) := T.gl _ (T.c.fact 25 rfl)
theorem Tx.g_Chain : mg "Chain" = some (.ref (He.ga K "Chain")) := T.gl _ (T.c.fact 26 rfl)
theorem Tx.g_Group : mg "Group" = some (.ref (He.ga K "Group")) := T.gl _ (T.c.fact 27 rfl)
theorem Tx.g_Ring : mg "Ring" = some (.ref (He.ga K "Ring")) := T.gl _ (T.c.fact 28 rfl)
theorem Tx.g_Places : mg "Places" = some (.ref (He.ga K "Places")) := T.gl _ (T.c.fact 29 rfl)
theorem Tx.g_Lists : mg "Lists" = some (.ref (He.ga K "Lists")) := T.gl _ (T.c.fact 30 rfl)
theorem Tx.g_Sets : mg "Sets" = some (.ref (He.ga K "Sets")) := T.gl _ (T.c.fact 31 rfl)
theorem Tx.g_Nets : mg "Nets" = some (.ref (He.ga K "Nets")) := T.gl _ (T.c.fact 32 rfl)
theorem Tx.g_Turns : mg "Turns" = some (.ref (He.ga K "Turns")) := T.gl _ (T.c.fact 33 rfl)
theorem Tx.f_isinstance : mg "isinstance" = none := T.fr _ (T.c.fact 34 rfl)
theorem Tx.f_int : mg "int" = none := T.fr _ (T.c.fact 35 rfl)
theorem Tx.f_bool : mg "bool" = none := T.fr _ (T.c.fact 36 rfl)
theorem Tx.f_tuple : mg "tuple" = none := T.fr _ (T.c.fact 37 rfl)
theorem Tx.f_list : mg "list" = none := T.fr _ (T.c.fact 38 rfl)
theorem Tx.f_len : mg "len" = none := T.fr _ (T.c.fact 39 rfl)
theorem Tx.f_range : mg "range" = none := T.fr _ (T.c.fact 40 rfl)
theorem Tx.f_enumerate : mg "enumerate" = none := T.fr _ (T.c.fact 41 rfl)
theorem Tx.f_sorted : mg "sorted" = none := T.fr _ (T.c.fact 42 rfl)
theorem Tx.f_set : mg "set" = none := T.fr _ (T.c.fact 43 rfl)
theorem Tx.f_reversed : mg "reversed" = none := T.fr _ (T.c.fact 44 rfl)
theorem Tx.f_divmod : mg "divmod" = none := T.fr _ (T.c.fact 45 rfl)
theorem Tx.f_all : mg "all" = none := T.fr _ (T.c.fact 46 rfl)
theorem Tx.f_min : mg "min" = none := T.fr _ (T.c.fact 47 rfl)
theorem Tx.f_max : mg "max" = none := T.fr _ (T.c.fact 48 rfl)
theorem Tx.i_MOST : ∃ t, mg "MOST" = some (.int 60 t) := T.nu _ _ (T.c.fact 49 rfl)
theorem Tx.i_MOST_PLACES_groups : ∃ t, mg "MOST_PLACES_groups" = some (.int 60 t) := T.nu _ _ (T.c.fact 50 rfl)
theorem Tx.i_MOST_MAKERS : ∃ t, mg "MOST_MAKERS" = some (.int 200 t) := T.nu _ _ (T.c.fact 51 rfl)
theorem Tx.i_MOST_PLACES_acts : ∃ t, mg "MOST_PLACES_acts" = some (.int 60 t) := T.nu _ _ (T.c.fact 52 rfl)
theorem Tx.i_MOST_PAIRS : ∃ t, mg "MOST_PAIRS" = some (.int 200 t) := T.nu _ _ (T.c.fact 53 rfl)
theorem Tx.c_Step : Cls K (He.ga K "Step") := He.cls_ok (T.c.fact 54 rfl)
theorem Tx.c_Chain : Cls K (He.ga K "Chain") := He.cls_ok (T.c.fact 55 rfl)
theorem Tx.c_Group : Cls K (He.ga K "Group") := He.cls_ok (T.c.fact 56 rfl)
theorem Tx.c_Ring : Cls K (He.ga K "Ring") := He.cls_ok (T.c.fact 57 rfl)
theorem Tx.c_Places : Cls K (He.ga K "Places") := He.cls_ok (T.c.fact 58 rfl)
theorem Tx.c_Lists : Cls K (He.ga K "Lists") := He.cls_ok (T.c.fact 59 rfl)
theorem Tx.c_Sets : Cls K (He.ga K "Sets") := He.cls_ok (T.c.fact 60 rfl)
theorem Tx.c_Nets : Cls K (He.ga K "Nets") := He.cls_ok (T.c.fact 61 rfl)
theorem Tx.c_Turns : Cls K (He.ga K "Turns") := He.cls_ok (T.c.fact 62 rfl)
theorem Tx.n_Step_place : NoAttr K (He.ga K "Step") "place" := He.noat_ok (T.c.fact 63 rfl)
theorem Tx.n_Step_lifts : NoAttr K (He.ga K "Step") "lifts" := He.noat_ok (T.c.fact 64 rfl)
theorem Tx.n_Step_makers : NoAttr K (He.ga K "Step") "makers" := He.noat_ok (T.c.fact 65 rfl)
theorem Tx.n_Chain_many : NoAttr K (He.ga K "Chain") "many" := He.noat_ok (T.c.fact 66 rfl)
theorem Tx.n_Chain_lines : NoAttr K (He.ga K "Chain") "lines" := He.noat_ok (T.c.fact 67 rfl)
theorem Tx.n_Chain_steps : NoAttr K (He.ga K "Chain") "steps" := He.noat_ok (T.c.fact 68 rfl)
theorem Tx.n_Group_made : NoAttr K (He.ga K "Group") "made" := He.noat_ok (T.c.fact 69 rfl)
theorem Tx.n_Group_many : NoAttr K (He.ga K "Group") "many" := He.noat_ok (T.c.fact 70 rfl)
theorem Tx.n_Group_chain : NoAttr K (He.ga K "Group") "chain" := He.noat_ok (T.c.fact 71 rfl)
theorem Tx.n_Group_steps : NoAttr K (He.ga K "Group") "steps" := He.noat_ok (T.c.fact 72 rfl)
theorem Tx.n_Ring_group : NoAttr K (He.ga K "Ring") "group" := He.noat_ok (T.c.fact 73 rfl)
theorem Tx.n_Ring_act : NoAttr K (He.ga K "Ring") "act" := He.noat_ok (T.c.fact 74 rfl)
theorem Tx.n_Ring_makers : NoAttr K (He.ga K "Ring") "makers" := He.noat_ok (T.c.fact 75 rfl)
theorem Tx.n_Ring_rows : NoAttr K (He.ga K "Ring") "rows" := He.noat_ok (T.c.fact 76 rfl)
theorem Tx.n_Places_many : NoAttr K (He.ga K "Places") "many" := He.noat_ok (T.c.fact 77 rfl)
theorem Tx.n_Lists_many : NoAttr K (He.ga K "Lists") "many" := He.noat_ok (T.c.fact 78 rfl)
theorem Tx.n_Sets_many : NoAttr K (He.ga K "Sets") "many" := He.noat_ok (T.c.fact 79 rfl)
theorem Tx.n_Nets_many : NoAttr K (He.ga K "Nets") "many" := He.noat_ok (T.c.fact 80 rfl)
theorem Tx.n_Turns_many : NoAttr K (He.ga K "Turns") "many" := He.noat_ok (T.c.fact 81 rfl)
theorem Tx.m_Chain_noted : Meth K (He.ga K "Chain") "noted" (He.ma K (He.ga K "Chain") "noted") := He.meth_ok (T.c.fact 82 rfl)
theorem Tx.m_Chain_line_of : Meth K (He.ga K "Chain") "line_of" (He.ma K (He.ga K "Chain") "line_of") := He.meth_ok (T.c.fact 83 rfl)
theorem Tx.m_Chain_rest : Meth K (He.ga K "Chain") "rest" (He.ma K (He.ga K "Chain") "rest") := He.meth_ok (T.c.fact 84 rfl)
theorem Tx.m_Chain_has : Meth K (He.ga K "Chain") "has" (He.ma K (He.ga K "Chain") "has") := He.meth_ok (T.c.fact 85 rfl)
theorem Tx.m_Chain_add : Meth K (He.ga K "Chain") "add" (He.ma K (He.ga K "Chain") "add") := He.meth_ok (T.c.fact 86 rfl)
theorem Tx.m_Chain_grown : Meth K (He.ga K "Chain") "grown" (He.ma K (He.ga K "Chain") "grown") := He.meth_ok (T.c.fact 87 rfl)
theorem Tx.m_Group_told : Meth K (He.ga K "Group") "told" (He.ma K (He.ga K "Group") "told") := He.meth_ok (T.c.fact 88 rfl)
theorem Tx.m_Group_has : Meth K (He.ga K "Group") "has" (He.ma K (He.ga K "Group") "has") := He.meth_ok (T.c.fact 89 rfl)
theorem Tx.m_Ring_spread : Meth K (He.ga K "Ring") "spread" (He.ma K (He.ga K "Ring") "spread") := He.meth_ok (T.c.fact 90 rfl)
theorem Tx.m_Ring_things : Meth K (He.ga K "Ring") "things" (He.ma K (He.ga K "Ring") "things") := He.meth_ok (T.c.fact 91 rfl)
theorem Tx.m_Ring_way : Meth K (He.ga K "Ring") "way" (He.ma K (He.ga K "Ring") "way") := He.meth_ok (T.c.fact 92 rfl)
theorem Tx.m_Ring_bringer : Meth K (He.ga K "Ring") "bringer" (He.ma K (He.ga K "Ring") "bringer") := He.meth_ok (T.c.fact 93 rfl)
theorem Tx.m_Places_looked : Meth K (He.ga K "Places") "looked" (He.ma K (He.ga K "Places") "looked") := He.meth_ok (T.c.fact 94 rfl)
theorem Tx.m_Places_moved : Meth K (He.ga K "Places") "moved" (He.ma K (He.ga K "Places") "moved") := He.meth_ok (T.c.fact 95 rfl)
theorem Tx.m_Lists_looked : Meth K (He.ga K "Lists") "looked" (He.ma K (He.ga K "Lists") "looked") := He.meth_ok (T.c.fact 96 rfl)
theorem Tx.m_Lists_moved : Meth K (He.ga K "Lists") "moved" (He.ma K (He.ga K "Lists") "moved") := He.meth_ok (T.c.fact 97 rfl)
theorem Tx.m_Sets_looked : Meth K (He.ga K "Sets") "looked" (He.ma K (He.ga K "Sets") "looked") := He.meth_ok (T.c.fact 98 rfl)
theorem Tx.m_Sets_moved : Meth K (He.ga K "Sets") "moved" (He.ma K (He.ga K "Sets") "moved") := He.meth_ok (T.c.fact 99 rfl)
theorem Tx.m_Nets_looked : Meth K (He.ga K "Nets") "looked" (He.ma K (He.ga K "Nets") "looked") := He.meth_ok (T.c.fact 100 rfl)
theorem Tx.m_Nets_moved : Meth K (He.ga K "Nets") "moved" (He.ma K (He.ga K "Nets") "moved") := He.meth_ok (T.c.fact 101 rfl)
theorem Tx.m_Turns_looked : Meth K (He.ga K "Turns") "looked" (He.ma K (He.ga K "Turns") "looked") := He.meth_ok (T.c.fact 102 rfl)
theorem Tx.m_Turns_moved : Meth K (He.ga K "Turns") "moved" (He.ma K (He.ga K "Turns") "moved") := He.meth_ok (T.c.fact 103 rfl)
theorem Tx.k_Step : Mk K (He.ga K "Step") (He.ma K (He.ga K "Step") "__init__") := He.mkr_ok (T.c.fact 104 rfl)
theorem Tx.k_Chain : Mk K (He.ga K "Chain") (He.ma K (He.ga K "Chain") "__init__") := He.mkr_ok (T.c.fact 105 rfl)
theorem Tx.k_Group : Mk K (He.ga K "Group") (He.ma K (He.ga K "Group") "__init__") := He.mkr_ok (T.c.fact 106 rfl)
theorem Tx.k_Ring : Mk K (He.ga K "Ring") (He.ma K (He.ga K "Ring") "__init__") := He.mkr_ok (T.c.fact 107 rfl)
theorem Tx.k_Places : Mk K (He.ga K "Places") (He.ma K (He.ga K "Places") "__init__") := He.mkr_ok (T.c.fact 108 rfl)
theorem Tx.k_Lists : Mk K (He.ga K "Lists") (He.ma K (He.ga K "Lists") "__init__") := He.mkr_ok (T.c.fact 109 rfl)
theorem Tx.k_Sets : Mk K (He.ga K "Sets") (He.ma K (He.ga K "Sets") "__init__") := He.mkr_ok (T.c.fact 110 rfl)
theorem Tx.k_Nets : Mk K (He.ga K "Nets") (He.ma K (He.ga K "Nets") "__init__") := He.mkr_ok (T.c.fact 111 rfl)
theorem Tx.k_Turns : Mk K (He.ga K "Turns") (He.ma K (He.ga K "Turns") "__init__") := He.mkr_ok (T.c.fact 112 rfl)
theorem Tx.d_IsWhole : ∃ fd, FunD K "is_whole" "is_whole" (defArgs sIsWhole) (defBody sIsWhole) (defScope sIsWhole) [] [] (He.ga K "is_whole") fd := T.c.def_ 0 (d := dIsWhole) rfl
theorem Tx.d_IsTurning : ∃ fd, FunD K "is_turning" "is_turning" (defArgs sIsTurning) (defBody sIsTurning) (defScope sIsTurning) [] [] (He.ga K "is_turning") fd := T.c.def_ 1 (d := dIsTurning) rfl
theorem Tx.d_Still : ∃ fd, FunD K "still" "still" (defArgs sStill) (defBody sStill) (defScope sStill) [] [] (He.ga K "still") fd := T.c.def_ 2 (d := dStill) rfl
theorem Tx.d_Behind : ∃ fd, FunD K "behind" "behind" (defArgs sBehind) (defBody sBehind) (defScope sBehind) [] [] (He.ga K "behind") fd := T.c.def_ 3 (d := dBehind) rfl
theorem Tx.d_Back : ∃ fd, FunD K "back" "back" (defArgs sBack) (defBody sBack) (defScope sBack) [] [] (He.ga K "back") fd := T.c.def_ 4 (d := dBack) rfl
theorem Tx.d_Turned : ∃ fd, FunD K "turned" "turned" (defArgs sTurned) (defBody sTurned) (defScope sTurned) [] [] (He.ga K "turned") fd := T.c.def_ 5 (d := dTurned) rfl
theorem Tx.d_StepInit : ∃ fd, FunD K "__init__" "Step.__init__" (defArgs sStepInit) (defBody sStepInit) (defScope sStepInit) [] [] (He.ma K (He.ga K "Step") "__init__") fd := T.c.def_ 6 (d := dStepInit) rfl
theorem Tx.d_ChainInit : ∃ fd, FunD K "__init__" "Chain.__init__" (defArgs sChainInit) (defBody sChainInit) (defScope sChainInit) [] [] (He.ma K (He.ga K "Chain") "__init__") fd := T.c.def_ 7 (d := dChainInit) rfl
theorem Tx.d_ChainNoted : ∃ fd, FunD K "noted" "Chain.noted" (defArgs sChainNoted) (defBody sChainNoted) (defScope sChainNoted) [] [] (He.ma K (He.ga K "Chain") "noted") fd := T.c.def_ 8 (d := dChainNoted) rfl
theorem Tx.d_ChainLineOf : ∃ fd, FunD K "line_of" "Chain.line_of" (defArgs sChainLineOf) (defBody sChainLineOf) (defScope sChainLineOf) [] [] (He.ma K (He.ga K "Chain") "line_of") fd := T.c.def_ 9 (d := dChainLineOf) rfl
theorem Tx.d_ChainRest : ∃ fd, FunD K "rest" "Chain.rest" (defArgs sChainRest) (defBody sChainRest) (defScope sChainRest) [] [] (He.ma K (He.ga K "Chain") "rest") fd := T.c.def_ 10 (d := dChainRest) rfl
theorem Tx.d_ChainHas : ∃ fd, FunD K "has" "Chain.has" (defArgs sChainHas) (defBody sChainHas) (defScope sChainHas) [] [] (He.ma K (He.ga K "Chain") "has") fd := T.c.def_ 11 (d := dChainHas) rfl
theorem Tx.d_ChainAdd : ∃ fd, FunD K "add" "Chain.add" (defArgs sChainAdd) (defBody sChainAdd) (defScope sChainAdd) [] [] (He.ma K (He.ga K "Chain") "add") fd := T.c.def_ 12 (d := dChainAdd) rfl
theorem Tx.d_ChainGrown : ∃ fd, FunD K "grown" "Chain.grown" (defArgs sChainGrown) (defBody sChainGrown) (defScope sChainGrown) [] [] (He.ma K (He.ga K "Chain") "grown") fd := T.c.def_ 13 (d := dChainGrown) rfl
theorem Tx.d_IsOf : ∃ fd, FunD K "is_of" "is_of" (defArgs sIsOf) (defBody sIsOf) (defScope sIsOf) [] [] (He.ga K "is_of") fd := T.c.def_ 14 (d := dIsOf) rfl
theorem Tx.d_LookedMakers : ∃ fd, FunD K "looked_makers" "looked_makers" (defArgs sLookedMakers) (defBody sLookedMakers) (defScope sLookedMakers) [] [] (He.ga K "looked_makers") fd := T.c.def_ 15 (d := dLookedMakers) rfl
theorem Tx.d_GroupInit : ∃ fd, FunD K "__init__" "Group.__init__" (defArgs sGroupInit) (defBody sGroupInit) (defScope sGroupInit) [] [] (He.ma K (He.ga K "Group") "__init__") fd := T.c.def_ 16 (d := dGroupInit) rfl
theorem Tx.d_GroupTold : ∃ fd, FunD K "told" "Group.told" (defArgs sGroupTold) (defBody sGroupTold) (defScope sGroupTold) [] [] (He.ma K (He.ga K "Group") "told") fd := T.c.def_ 17 (d := dGroupTold) rfl
theorem Tx.d_GroupHas : ∃ fd, FunD K "has" "Group.has" (defArgs sGroupHas) (defBody sGroupHas) (defScope sGroupHas) [] [] (He.ma K (He.ga K "Group") "has") fd := T.c.def_ 18 (d := dGroupHas) rfl
theorem Tx.d_RingInit : ∃ fd, FunD K "__init__" "Ring.__init__" (defArgs sRingInit) (defBody sRingInit) (defScope sRingInit) [.int 1000] [] (He.ma K (He.ga K "Ring") "__init__") fd := T.c.def_ 19 (d := dRingInit) rfl
theorem Tx.d_RingSpread : ∃ fd, FunD K "spread" "Ring.spread" (defArgs sRingSpread) (defBody sRingSpread) (defScope sRingSpread) [] [] (He.ma K (He.ga K "Ring") "spread") fd := T.c.def_ 20 (d := dRingSpread) rfl
theorem Tx.d_RingThings : ∃ fd, FunD K "things" "Ring.things" (defArgs sRingThings) (defBody sRingThings) (defScope sRingThings) [] [] (He.ma K (He.ga K "Ring") "things") fd := T.c.def_ 21 (d := dRingThings) rfl
theorem Tx.d_RingWay : ∃ fd, FunD K "way" "Ring.way" (defArgs sRingWay) (defBody sRingWay) (defScope sRingWay) [] [] (He.ma K (He.ga K "Ring") "way") fd := T.c.def_ 22 (d := dRingWay) rfl
theorem Tx.d_RingBringer : ∃ fd, FunD K "bringer" "Ring.bringer" (defArgs sRingBringer) (defBody sRingBringer) (defScope sRingBringer) [] [] (He.ma K (He.ga K "Ring") "bringer") fd := T.c.def_ 23 (d := dRingBringer) rfl
theorem Tx.d_RowOf : ∃ fd, FunD K "row_of" "row_of" (defArgs sRowOf) (defBody sRowOf) (defScope sRowOf) [] [] (He.ga K "row_of") fd := T.c.def_ 24 (d := dRowOf) rfl
theorem Tx.d_PlacesOf : ∃ fd, FunD K "places_of" "places_of" (defArgs sPlacesOf) (defBody sPlacesOf) (defScope sPlacesOf) [] [] (He.ga K "places_of") fd := T.c.def_ 25 (d := dPlacesOf) rfl
theorem Tx.d_InOrder : ∃ fd, FunD K "in_order" "in_order" (defArgs sInOrder) (defBody sInOrder) (defScope sInOrder) [] [] (He.ga K "in_order") fd := T.c.def_ 26 (d := dInOrder) rfl
theorem Tx.d_PairOf : ∃ fd, FunD K "pair_of" "pair_of" (defArgs sPairOf) (defBody sPairOf) (defScope sPairOf) [] [] (He.ga K "pair_of") fd := T.c.def_ 27 (d := dPairOf) rfl
theorem Tx.d_PlacesInit : ∃ fd, FunD K "__init__" "Act.__init__" (defArgs sPlacesInit) (defBody sPlacesInit) (defScope sPlacesInit) [] [] (He.ma K (He.ga K "Places") "__init__") fd := T.c.def_ 28 (d := dPlacesInit) rfl
theorem Tx.d_ListsInit : ∃ fd, FunD K "__init__" "Act.__init__" (defArgs sListsInit) (defBody sListsInit) (defScope sListsInit) [] [] (He.ma K (He.ga K "Lists") "__init__") fd := T.c.def_ 29 (d := dListsInit) rfl
theorem Tx.d_SetsInit : ∃ fd, FunD K "__init__" "Act.__init__" (defArgs sSetsInit) (defBody sSetsInit) (defScope sSetsInit) [] [] (He.ma K (He.ga K "Sets") "__init__") fd := T.c.def_ 30 (d := dSetsInit) rfl
theorem Tx.d_NetsInit : ∃ fd, FunD K "__init__" "Act.__init__" (defArgs sNetsInit) (defBody sNetsInit) (defScope sNetsInit) [] [] (He.ma K (He.ga K "Nets") "__init__") fd := T.c.def_ 31 (d := dNetsInit) rfl
theorem Tx.d_TurnsInit : ∃ fd, FunD K "__init__" "Act.__init__" (defArgs sTurnsInit) (defBody sTurnsInit) (defScope sTurnsInit) [] [] (He.ma K (He.ga K "Turns") "__init__") fd := T.c.def_ 32 (d := dTurnsInit) rfl
theorem Tx.d_PlacesLooked : ∃ fd, FunD K "looked" "Places.looked" (defArgs sPlacesLooked) (defBody sPlacesLooked) (defScope sPlacesLooked) [] [] (He.ma K (He.ga K "Places") "looked") fd := T.c.def_ 33 (d := dPlacesLooked) rfl
theorem Tx.d_PlacesMoved : ∃ fd, FunD K "moved" "Places.moved" (defArgs sPlacesMoved) (defBody sPlacesMoved) (defScope sPlacesMoved) [] [] (He.ma K (He.ga K "Places") "moved") fd := T.c.def_ 34 (d := dPlacesMoved) rfl
theorem Tx.d_ListsLooked : ∃ fd, FunD K "looked" "Lists.looked" (defArgs sListsLooked) (defBody sListsLooked) (defScope sListsLooked) [] [] (He.ma K (He.ga K "Lists") "looked") fd := T.c.def_ 35 (d := dListsLooked) rfl
theorem Tx.d_ListsMoved : ∃ fd, FunD K "moved" "Lists.moved" (defArgs sListsMoved) (defBody sListsMoved) (defScope sListsMoved) [] [] (He.ma K (He.ga K "Lists") "moved") fd := T.c.def_ 36 (d := dListsMoved) rfl
theorem Tx.d_SetsLooked : ∃ fd, FunD K "looked" "Sets.looked" (defArgs sSetsLooked) (defBody sSetsLooked) (defScope sSetsLooked) [] [] (He.ma K (He.ga K "Sets") "looked") fd := T.c.def_ 37 (d := dSetsLooked) rfl
theorem Tx.d_SetsMoved : ∃ fd, FunD K "moved" "Sets.moved" (defArgs sSetsMoved) (defBody sSetsMoved) (defScope sSetsMoved) [] [] (He.ma K (He.ga K "Sets") "moved") fd := T.c.def_ 38 (d := dSetsMoved) rfl
theorem Tx.d_NetsLooked : ∃ fd, FunD K "looked" "Nets.looked" (defArgs sNetsLooked) (defBody sNetsLooked) (defScope sNetsLooked) [] [] (He.ma K (He.ga K "Nets") "looked") fd := T.c.def_ 39 (d := dNetsLooked) rfl
theorem Tx.d_NetsMoved : ∃ fd, FunD K "moved" "Nets.moved" (defArgs sNetsMoved) (defBody sNetsMoved) (defScope sNetsMoved) [] [] (He.ma K (He.ga K "Nets") "moved") fd := T.c.def_ 40 (d := dNetsMoved) rfl
theorem Tx.d_TurnsLooked : ∃ fd, FunD K "looked" "Turns.looked" (defArgs sTurnsLooked) (defBody sTurnsLooked) (defScope sTurnsLooked) [] [] (He.ma K (He.ga K "Turns") "looked") fd := T.c.def_ 41 (d := dTurnsLooked) rfl
theorem Tx.d_TurnsMoved : ∃ fd, FunD K "moved" "Turns.moved" (defArgs sTurnsMoved) (defBody sTurnsMoved) (defScope sTurnsMoved) [] [] (He.ma K (He.ga K "Turns") "moved") fd := T.c.def_ 42 (d := dTurnsMoved) rfl
theorem Tx.d_LawCell : ∃ fd, FunD K "_law_cell" "_law_cell" (defArgs sLawCell) (defBody sLawCell) (defScope sLawCell) [] [] (He.ga K "_law_cell") fd := T.c.def_ 43 (d := dLawCell) rfl
theorem Tx.d_LawWhole : ∃ fd, FunD K "_law_whole" "_law_whole" (defArgs sLawWhole) (defBody sLawWhole) (defScope sLawWhole) [] [] (He.ga K "_law_whole") fd := T.c.def_ 44 (d := dLawWhole) rfl
theorem Tx.d_LawPlain : ∃ fd, FunD K "_law_plain" "_law_plain" (defArgs sLawPlain) (defBody sLawPlain) (defScope sLawPlain) [] [] (He.ga K "_law_plain") fd := T.c.def_ 45 (d := dLawPlain) rfl
theorem Tx.d_LawOrder : ∃ fd, FunD K "_law_order" "_law_order" (defArgs sLawOrder) (defBody sLawOrder) (defScope sLawOrder) [] [] (He.ga K "_law_order") fd := T.c.def_ 46 (d := dLawOrder) rfl
theorem Tx.d_LawMaker : ∃ fd, FunD K "_law_maker" "_law_maker" (defArgs sLawMaker) (defBody sLawMaker) (defScope sLawMaker) [] [] (He.ga K "_law_maker") fd := T.c.def_ 47 (d := dLawMaker) rfl
theorem Tx.d_LawThing : ∃ fd, FunD K "_law_thing" "_law_thing" (defArgs sLawThing) (defBody sLawThing) (defScope sLawThing) [] [] (He.ga K "_law_thing") fd := T.c.def_ 48 (d := dLawThing) rfl
theorem Tx.d_LawForm : ∃ fd, FunD K "_law_form" "_law_form" (defArgs sLawForm) (defBody sLawForm) (defScope sLawForm) [] [] (He.ga K "_law_form") fd := T.c.def_ 49 (d := dLawForm) rfl
theorem Tx.d_LawMoved : ∃ fd, FunD K "_law_moved" "_law_moved" (defArgs sLawMoved) (defBody sLawMoved) (defScope sLawMoved) [] [] (He.ga K "_law_moved") fd := T.c.def_ 50 (d := dLawMoved) rfl
theorem Tx.d_LawAct : ∃ fd, FunD K "_law_act" "_law_act" (defArgs sLawAct) (defBody sLawAct) (defScope sLawAct) [] [] (He.ga K "_law_act") fd := T.c.def_ 51 (d := dLawAct) rfl
theorem Tx.d_LawTurning : ∃ fd, FunD K "_law_turning" "_law_turning" (defArgs sLawTurning) (defBody sLawTurning) (defScope sLawTurning) [] [] (He.ga K "_law_turning") fd := T.c.def_ 52 (d := dLawTurning) rfl
theorem Tx.d_LawClosed : ∃ fd, FunD K "_law_closed" "_law_closed" (defArgs sLawClosed) (defBody sLawClosed) (defScope sLawClosed) [] [] (He.ga K "_law_closed") fd := T.c.def_ 53 (d := dLawClosed) rfl
theorem Tx.d_LawGood : ∃ fd, FunD K "_law_good" "_law_good" (defArgs sLawGood) (defBody sLawGood) (defScope sLawGood) [] [] (He.ga K "_law_good") fd := T.c.def_ 54 (d := dLawGood) rfl
theorem Tx.d_Law : ∃ fd, FunD K "law" "law" (defArgs sLaw) (defBody sLaw) (defScope sLaw) [] [] (He.ga K "law") fd := T.c.def_ 55 (d := dLaw) rfl
end
section
variable {P : Program} {w : World} {K : PySem.W.Frag} {mg : Str → Option Value} {base : Heap}
/-- a def of the module keeps its promise -/
structure Fn (P : Program) (w : World) (K : PySem.W.Frag) (mg : Str → Option Value) (base : Heap) (k : Nat) (x : Str) (ps : List Str) (sp : Sp) : Prop where
  ex : ∃ fd, mg x = some (.ref (He.ga K x)) ∧ PySem.W.keepIn K (.ref (He.ga K x)) = true ∧ Binds K fd ps [] ∧ FnOk P w K mg base CX0 k (He.ga K x) fd ps sp
theorem Fn.mono {j k : Nat} {x : Str} {ps : List Str} {sp : Sp} (F : Fn P w K mg base j x ps sp) (h : j ≤ k) : Fn P w K mg base k x ps sp :=
  let ⟨fd, a, b, c, d⟩ := F.ex; ⟨fd, a, b, c, d.mono h⟩
theorem Fn.imp {k : Nat} {x : Str} {ps : List Str} {sp sp' : Sp} (F : Fn P w K mg base k x ps sp) (h : ∀ vs H Q E, sp' vs H Q E → sp vs H Q E) : Fn P w K mg base k x ps sp' :=
  let ⟨fd, a, b, c, d⟩ := F.ex; ⟨fd, a, b, c, d.imp h⟩
/-- a method of a class -/
structure Me (P : Program) (w : World) (K : PySem.W.Frag) (mg : Str → Option Value) (base : Heap) (k : Nat) (C : Addr) (m : Str) (ps : List Str) (sp : Sp) : Prop where
  ex : ∃ fd f, Cls K C ∧ Meth K C m f ∧ Binds K fd ps [] ∧ FnOk P w K mg base CX0 k f fd ps sp
theorem Me.mono {j k : Nat} {C : Addr} {x : Str} {ps : List Str} {sp : Sp} (F : Me P w K mg base j C x ps sp) (h : j ≤ k) : Me P w K mg base k C x ps sp :=
  let ⟨fd, f, a, b, c, d⟩ := F.ex; ⟨fd, f, a, b, c, d.mono h⟩
/-- a class that is made -/
structure Mc (P : Program) (w : World) (K : PySem.W.Frag) (mg : Str → Option Value) (base : Heap) (k : Nat) (x : Str) (ps : List Str) (dvs : List V) (sp : Sp) : Prop where
  ex : ∃ fd f ds, mg x = some (.ref (He.ga K x)) ∧ Mk K (He.ga K x) f ∧ Vals dvs ds ∧ Binds K fd ps ds ∧ FnOk P w K mg base CX0 k f fd ps sp
theorem Mc.mono {j k : Nat} {x : Str} {ps : List Str} {dvs : List V} {sp : Sp} (F : Mc P w K mg base j x ps dvs sp) (h : j ≤ k) : Mc P w K mg base k x ps dvs sp :=
  let ⟨fd, f, ds, a, b, v, c, d⟩ := F.ex; ⟨fd, f, ds, a, b, v, c, d.mono h⟩
end
section
variable {X : Cx} {k : Nat} {C : Addr} {ps : List Str} {sp : Sp} {dvs : List V} {x m : Str} {p pos apos : Pos} {e o : Expr} {es : List Expr} {ta : TE} {t : TA}
theorem pe_fn (F : Fn X.prog X.w X.K X.mg X.base k x ps sp) (hr : Room k X.A) (hg : Gl X x) (ha : PA X (e :: es) t) (hdb : (x == ("__debug__" : Str)) = false := by decide)
    (he : starEach (e :: es) X.env = (false, eval e X.env) :: starEach es X.env := by rfl) (hpl : (backTo pos (starEach es X.env)).any (·.1) = false := by rfl) :
    PE X (.Call (.Name x p) (e :: es) [] pos) (tCall sp [] E0 t) := by
  obtain ⟨fd, a, b, c, d⟩ := F.ex
  exact pe_call d hr hg a b c .nil pass0 ha hdb he hpl
theorem pe_me {pl : Sem Bool} (M : Me X.prog X.w X.K X.mg X.base k C m ps sp) (he : PE X o ta) (hr : Room k X.A) (ha : PA X (e :: es) t)
    (hst : starEach (e :: es) X.env = (false, eval e X.env) :: starEach es X.env := by rfl) (hpl : (backTo pos (starEach es X.env)).any (·.1) = false := by rfl)
    (ht : eval (.Call (.Attribute o m apos) (e :: es) [] pos) X.env = (do
      let ov ← eval o X.env
      standAt apos.atName
      let (f, first) ← holding [ov] (getMethod ov m pl)
      callWith pos f first (backTo pos (starEach (e :: es) X.env)) (backToKw pos (keywordEach [] X.env))) := by rfl) :
    PE X (.Call (.Attribute o m apos) (e :: es) [] pos) (tMeth C m sp [] E0 ta t) := by
  obtain ⟨fd, f, c, mm, b, F⟩ := M.ex
  exact pe_meth he c mm F hr b .nil pass0 ha hst hpl ht
theorem pe_me0 {pl : Sem Bool} (M : Me X.prog X.w X.K X.mg X.base k C m ps sp) (he : PE X o ta) (hr : Room k X.A)
    (ht : eval (.Call (.Attribute o m apos) [] [] pos) X.env = (do
      let ov ← eval o X.env
      standAt apos.atName
      let (f, first) ← holding [ov] (getMethod ov m pl)
      callWith pos f first (backTo pos (starEach [] X.env)) (backToKw pos (keywordEach [] X.env))) := by rfl) :
    PE X (.Call (.Attribute o m apos) [] [] pos) (tMeth C m sp [] E0 ta tNil) := by
  obtain ⟨fd, f, c, mm, b, F⟩ := M.ex
  exact pe_meth0 he c mm F hr b .nil pass0 ht
theorem pe_mc (M : Mc X.prog X.w X.K X.mg X.base k x ps dvs sp) (hr : Room (k + 1) X.A) (hg : Gl X x) (ha : PA X (e :: es) t) (hdb : (x == ("__debug__" : Str)) = false := by decide)
    (he : starEach (e :: es) X.env = (false, eval e X.env) :: starEach es X.env := by rfl) (hpl : (backTo pos (starEach es X.env)).any (·.1) = false := by rfl) :
    PE X (.Call (.Name x p) (e :: es) [] pos) (tMake (He.ga X.K x) sp dvs E0 t) := by
  obtain ⟨fd, f, ds, a, mk, v, b, F⟩ := M.ex
  exact pe_make mk F hr hg a b v pass0 ha hdb he hpl
end
end K43
/-! R1: enumerate over a tuple. -/
namespace K43
open PySem PySem.Spec PyProof.Rows L2

set_option maxHeartbeats 1000000 in
theorem meets_enum1 {v : Value} {o : Obj} {H : Heap → Prop} (B : Begins v o H) :
    Meets (Builtin.«enumerate.__new__» ⟨[.type "enumerate", v], []⟩) (fun _ R s => H s.heap ∧
      R (.ok (.ret (.ref (s.heap.push o).objs.size))) { s with heap := (s.heap.push o).push { cls := .type "enumerate", data := .fields #[.none, .bool false, .ref s.heap.objs.size, rawInt 0, .none, .none] } }) :=
  .of_wp fun prog w A R s h => by
    obtain ⟨hp, g, d, tk, os⟩ := s; obtain ⟨h1, h⟩ := h
    have hsub := sub_enumerate
    have q1 : ∀ {A' : Around} {E : Value → Shared → Prop} {Q : Value → Shared → Prop}, Q (.ref hp.objs.size) ⟨hp.push o, g, d, tk, os⟩ → wpAny (model prog w) A' (pyIter v) Q E ⟨hp, g, d, tk, os⟩ :=
      fun q => B.iter prog w _ _ ⟨hp, g, d, tk, os⟩ _ h1 q
    wp_walk using q1
    refine wpAny_stack_any fun st => wpAny_pure ?_
    split
    · rename_i c _ _ _ _ _
      cases (c == Value.type "enumerate")
      · wp_walk using q1
        exact ⟨_, rfl, h⟩
      · wp_walk using q1
        exact ⟨_, rfl, h⟩
    · wp_walk using q1
      exact ⟨_, rfl, h⟩
theorem enum_begins1 {A : Around} {E : Value → Shared → Prop} {s : Shared} {prog : Program} {w : World} {v : Value} {o : Obj} {H : Heap → Prop} {Q : Value → Shared → Prop} (B : Begins v o H) (h1 : H s.heap)
    (h : ∀ h', IsEnum h' (s.heap.objs.size + 1) s.heap.objs.size 0 .none → h'.get? s.heap.objs.size = some o → h'.objs.size = s.heap.objs.size + 2 →
      (∀ b o, s.heap.get? b = some o → h'.get? b = some o) → Q (.ref (s.heap.objs.size + 1)) { s with heap := h' }) :
    wpAny (model prog w) A (call (.type "enumerate") [v]) Q E s := by
  refine callType_new F.called_enumerate (by decide) (F.typeCall_enumerate_1 _) (F.newCall_enumerate_1 _) (fun obj => F.args_object_init_2 obj _) F.entry_enumerate_new
    (meets_enum1 B) ⟨h1, ?_⟩
  have hz : (s.heap.push o).objs.size = s.heap.objs.size + 1 := Heap.size_push ..
  show _ ∧ _
  rw [hz]
  have he : IsEnum ((s.heap.push o).push { cls := .type "enumerate", data := .fields #[.none, .bool false, .ref s.heap.objs.size, rawInt 0, .none, .none] }) (s.heap.objs.size + 1) s.heap.objs.size 0 .none := by
    have := Heap.get?_push_size (s.heap.push o) (o := { cls := .type "enumerate", data := .fields #[.none, .bool false, .ref s.heap.objs.size, rawInt 0, .none, .none] }) rfl
    rw [hz] at this; exact this
  refine ⟨⟨_, he, rfl⟩, h _ he (Heap.get?_push_of_some _ (Heap.get?_push_size _ B.free)) (by rw [Heap.size_push, hz]) fun b o x => Heap.get?_push_of_some _ (Heap.get?_push_of_some _ x)⟩
/-- the tuple at a, each item in a new pair -/
def IteT (K : PySem.W.Frag) (a : Addr) : It :=
  ⟨fun i H => ∃ (xs : List V) (x : V), SqT K H a xs ∧ xs[i]? = some x, fun i H v H' => ∃ T x, v = .ref T ∧ H T = none ∧ H' = upd H T (.tup [.int (i : Nat), x]) ∧ ∀ xs, SqT K H a xs → xs[i]? = some x, fun i H => ∃ xs : List V, SqT K H a xs ∧ xs.length ≤ i⟩
theorem istup {h : Heap} {a : Addr} {its : Array Value} (x : IsTup h a its) : h.IsTuple a its := x
theorem turn_enumT {P : Program} {w : World} {K : PySem.W.Frag} {elts : List Expr} {kk : Nat} {tpos : Pos} (a e it : Addr) :
    Turn P w K (.Tuple elts kk tpos) (IteT K a) [e, it] e (fun i h => (∃ old, IsEnum h e it ((i : Nat) : Int) old) ∧ h.IsTupleIter it a i ∧ e ≠ it) where
  mem := by simp
  obj := fun i h st b hb => by
    obtain ⟨⟨old, he⟩, ⟨o, ho, hc, hd⟩, _⟩ := st
    have e' : b = e ∨ b = it := by simpa using hb
    rcases e' with z | z
    · rw [z]; exact ⟨_, he, fun v q => nomatch q⟩
    · rw [z]; exact ⟨o, ho, fun v q => by rw [hd] at q; cases q⟩
  keep := fun i h h' st k => let ⟨⟨old, he⟩, hi, hne⟩ := st; ⟨⟨old, k e (by simp) _ he⟩, hi.at fun o q => k it (by simp) o q, hne⟩
  item := by
    intro X hP hw hK hc i pins s σ H E I hf st hg
    subst hP hw hK
    obtain ⟨⟨old, he⟩, hit, hne⟩ := st
    obtain ⟨xs, x, hq, hx⟩ := hg
    obtain ⟨its, rv, p, hz⟩ := I.tuple hq
    obtain ⟨u, hu, ru⟩ := rv.get hx
    have hel : e < s.heap.objs.size := Heap.lt_size he
    have hil : it < s.heap.objs.size := by obtain ⟨_, q, _⟩ := hit; exact Heap.lt_size q
    have hai : a ≠ it := fun z => by
      obtain ⟨o, ho, hcl, _⟩ := p
      obtain ⟨o', ho', hcl', _⟩ := hit
      rw [z, ho'] at ho
      cases ho
      rw [hcl'] at hcl
      exact absurd (Value.type.inj hcl) (by decide)
    have hae : a ≠ e := fun z => by
      obtain ⟨o, ho, hcl, _⟩ := p
      rw [z, he] at ho
      cases ho
      exact absurd (Value.type.inj hcl) (by decide)
    have hlen : i < its.toArray.size := by
      have := (List.getElem?_eq_some_iff.mp hu).1
      simpa using this
    have DD : Draws X.prog X.w X.A.in1 it [it, a] its.toArray.size (fun i v => its.toArray[i]? = some v) (fun i h => h.IsTupleIter it a i ∧ h.IsTuple a its.toArray) := Draws.tuple (A := X.A.in1) (I.ok.hd hc) it a hai its.toArray
    refine wpAny_pyNext_enum_itemD DD he ⟨hit, istup p⟩ hlen hne (by
      intro z
      have z' : e = it ∨ e = a := by simpa using z
      rcases z' with z | z
      · exact hne z
      · exact hae z.symm) fun y h' tk hy ho hit' hT hsz hk => ?_
    have ey : y = u := by
      have hy : its.toArray[i]? = some y := hy
      rw [List.getElem?_toArray, hu] at hy
      exact (Option.some.inj hy).symm
    subst ey
    refine ⟨_, rfl, wpAny_letOwnedTupleGo_enum (s := { s with heap := h', toks := tk + 1 }) ho fun h'' he' sb => ?_⟩
    have hT2 : h''.get? s.heap.objs.size = some { cls := .type "tuple", data := .seq #[.int i tk, y] } := (sb.2 _ (Nat.ne_of_gt hel)).trans hT
    have new : ObjOk X.prog X.w (upd H s.heap.objs.size (.tup [.int (i : Nat), x])) h'' s.heap.objs.size (.tup [.int (i : Nat), x]) :=
      ⟨by show 2 ≤ sizeLine; decide, [.int i tk, y], .cons ⟨_, rfl⟩ (.cons ru .nil), ⟨_, hT2, rfl, _, rfl⟩⟩
    have I1 : Inv X pins σ (upd H s.heap.objs.size (.tup [.int (i : Nat), x])) { s with heap := h'', toks := tk + 1 } :=
      I.turnedNew (ch := [e, it]) (fun b ob hb q => (sb.2 b (fun z => hb (by simp [z]))).trans (hk b ob (fun z => hb (by simp [z])) (fun z => hb (by simp [z])) q)) hf (Nat.le_refl _) new
    refine ⟨.ref s.heap.objs.size, _, I1, rfl, ⟨_, x, rfl, I.hok.fresh (Nat.le_refl _), rfl, fun ys hy => by rw [I.tuple_inj hy hq]; exact hx⟩, ⟨⟨y, ?_⟩, hit'.1.at fun o q => (sb.2 it (Ne.symm hne)).trans q, hne⟩, fun b hb => ?_⟩
    · have e1 : ((i + 1 : Nat) : Int) = (i : Int) + 1 := by omega
      rw [e1]; exact he'
    · have hb' : b < s.heap.objs.size := by
        have e' : b = e ∨ b = it := by simpa using hb
        rcases e' with z | z
        · rw [z]; exact hel
        · rw [z]; exact hil
      rw [upd_ne (Nat.ne_of_lt hb')]
      exact (hf b hb).1
  done := by
    intro X hP hw hK hc i pins s σ H E I hf st hg
    subst hP hw hK
    obtain ⟨⟨old, he⟩, hit, hne⟩ := st
    obtain ⟨xs, hq, hx⟩ := hg
    obtain ⟨its, rv, p, hz⟩ := I.tuple hq
    obtain ⟨f0, f1, f2, f3, f4, f5⟩ := hf it (by simp)
    have hl := rv.length
    have hT : s.TypeIs (.ref e) "enumerate" := ⟨_, he, rfl⟩
    unfold pyNext
    refine wpAny_bind (wpAny_attempt (wpAny_callSpecial?_slot (name := Str.ofString "__next__") hT F.slot_enumerate_next
      (wpAny_call_entry F.slot_enumerate_next hT F.entry_enumerate_next ?_ (F.args_enumerate_next_1 _))))
    show wpAny _ _ (field (.ref e) 2 >>= _) _ _ _
    refine wpAny_bind (wpAny_field he rfl (x := .ref it) rfl ?_)
    refine wpAny_bind (wpAny_nextOf_tuple_end (I.ok.hd hc) hit (istup p) (by simp; omega) fun h' x he' hx' => ?_)
    obtain ⟨o, ho, hcl⟩ := hx'
    refine wpAny_bind (wpAny_isInstance (T := "StopIteration") (b := true) ⟨o, ho, hcl⟩ isSubtype_stop ?_)
    exact wpAny_pure ⟨rfl, I.turned (t' := s.toks) (fun b o hb q => he' b o hb q) f0 f1 f3 f4 f5⟩
  self := fun A i s Q E st h => let ⟨⟨_, he⟩, _⟩ := st; wpAny_pyIter_enum he h
def iEnumT (K : PySem.W.Frag) (ta : TA) : TI := fun σ H R => ta σ H fun vs H1 => ∃ a xs, vs = [.ref a] ∧ SqT K H1 a xs ∧ R (IteT K a) H1
theorem pi_enumT {X : Cx} {e : Expr} {ta : TA} {p pos tpos : Pos} {elts : List Expr} {kk : Nat} (hg : Gl X "enumerate") (hm : X.mg "enumerate" = none) (ha : PA X [e] ta) (hs : starEach [e] X.env = [(false, eval e X.env)] := by rfl) :
    PI X (.Tuple elts kk tpos) (.Call (.Name "enumerate" p) [e] [] pos) (iEnumT X.K ta) := by
  refine ⟨fun pins s σ H R I h => ?_⟩
  refine Call_ (ld_blt I hg hm boot_enumerate (PyProof.Rows.callWith_type1 (thn (ha.run pos pins s σ H _ I h) fun us s1 ⟨vs, H1, I1, r1, q1⟩ => ?_) hs rfl))
  obtain ⟨a, xs, ex, hq, q⟩ := q1
  subst ex
  cases r1 with
  | cons r rr =>
    cases rr
    cases r
    obtain ⟨its, rv, p', hz⟩ := I1.tuple hq
    refine enum_begins1 (begins_tuple a its.toArray) (istup p') fun h' he hit hsz hk => wpAny_pyIter_enum he ?_
    have I2 : Inv X pins σ H1 { s1 with heap := h' } := I1.kept (t' := s1.toks) hk
    refine ⟨s1.heap.objs.size + 1, [s1.heap.objs.size + 1, s1.heap.objs.size], _, _, H1, rfl, I2, turn_enumT a (s1.heap.objs.size + 1) s1.heap.objs.size, ⟨⟨.none, he⟩, ⟨_, hit, rfl, rfl⟩, Nat.succ_ne_self _⟩, fun b hb => ?_, q⟩
    have e' : b = s1.heap.objs.size + 1 ∨ b = s1.heap.objs.size := by simpa using hb
    have hle : s1.heap.objs.size ≤ b := by
      rcases e' with z | z
      · rw [z]; exact Nat.le_add_right _ _
      · rw [z]; exact Nat.le_refl _
    exact I1.fpOk hle (I1.hok.fresh hle)
/-- a for over enumerate(tuple): the turns by number -/
theorem for_enumT {K : PySem.W.Frag} {a : Addr} {xs : List V} {g : TG} {tb : TS} {D : Ends} {σ : L2.St} {H : Hp} (Pv : Nat → L2.St → Hp → Prop) (h0 : Pv 0 σ H) (hl : ∀ i σ H, i ≤ xs.length → Pv i σ H → SqT K H a xs)
    (hs : ∀ i x T σ H, xs[i]? = some x → Pv i σ H → H T = none → g (.ref T) σ (upd H T (.tup [.int (i : Nat), x])) fun σ' H' => tb { D with nx := Pv (i + 1), ct := Pv (i + 1), bk := D.nx } σ' H')
    (hd : ∀ σ H, Pv xs.length σ H → D.nx σ H) :
    ∃ W : Nat → Nat → L2.St → Hp → Prop, (∃ m, W 0 m σ H) ∧ ∀ i m σ H, W i m σ H → ((IteT K a).stop i H ∧ D.nx σ H) ∨ ((IteT K a).go i H ∧ ∃ N : L2.St → Hp → Prop, (∀ σ' H', N σ' H' → ∃ m', m' < m ∧ W (i + 1) m' σ' H') ∧ ∀ x H', (IteT K a).yld i H x H' → g x σ H' fun σ' H'' => tb { D with nx := N, ct := N, bk := D.nx } σ' H'') := by
  refine ⟨fun i m σ H => Pv i σ H ∧ i ≤ xs.length ∧ m = xs.length - i, ⟨_, h0, Nat.zero_le _, rfl⟩, fun i m σ H ⟨p, hi, em⟩ => ?_⟩
  have hq := hl i σ H hi p
  by_cases e : i < xs.length
  · refine .inr ⟨⟨xs, xs[i], hq, List.getElem?_eq_getElem e⟩, Pv (i + 1), fun σ' H' p' => ⟨xs.length - (i + 1), by omega, p', by omega, rfl⟩, ?_⟩
    rintro v H' ⟨T, x, rfl, hT, rfl, hx⟩
    exact hs i x T σ H (hx xs hq) p hT
  · have ei : i = xs.length := by omega
    subst ei
    exact .inl ⟨⟨xs, hq, Nat.le_refl _⟩, hd σ H p⟩
end K43
/-! W1: is_whole, is_turning, still, behind, back, turned. -/
namespace K43
open PySem PySem.Spec PyProof.Rows L2
def nV (k : Nat) : V := .int (k : Int)
def PermAt (H : Hp) (a : Addr) (p : List Nat) : Prop := H a = some (.tup (p.map nV))
theorem PermAt.same {H H' : Hp} {a : Addr} {p : List Nat} (h : PermAt H a p) (s : Same H H') : PermAt H' a p := s _ _ h
theorem sizeN {n : Nat} (h : n ≤ 60) : n ≤ sizeLine := Nat.le_trans h (by decide)
theorem same_upd {H : Hp} {a : Addr} {o : HO} (h : H a = none) : Same H (upd H a o) := fun b u e => by rw [upd_ne (ne_of_none e h)]; exact e
theorem map_get {α β : Type} {f : α → β} {l : List α} {i : Nat} {y : β} (h : (l.map f)[i]? = some y) : ∃ x, l[i]? = some x ∧ y = f x := by
  rw [List.getElem?_map] at h
  cases e : l[i]? with
  | none => rw [e] at h; cases h
  | some x => rw [e] at h; exact ⟨x, rfl, (Option.some.inj h).symm⟩
theorem ixN_nat {n k : Nat} (h : k < n) : ixN n (k : Int) = some k := by
  unfold ixN
  rw [if_pos (Int.natCast_nonneg k), if_pos (by omega)]
  rfl
theorem atI_natV {α : Type} {xs : List α} {k : Nat} {v : α} (h : xs[k]? = some v) : atI xs (k : Int) = some v := by
  unfold atI
  rw [ixN_nat (List.getElem?_eq_some_iff.mp h).1]
  exact h
section
variable {P : Program} {w : World} {K : PySem.W.Frag} {mg : Str → Option Value} {base : Heap}
def spWhole : Sp := fun vs H Q _ => ∃ i : Int, vs = [.int i] ∧ Q (.bl true) H
theorem scWhole : FnScope ["thing"] ["thing"] (defScope sIsWhole) := ⟨rfl, rfl, rfl, by decide +kernel, rfl, by decide +kernel, by decide +kernel⟩
theorem fn_is_whole (T : Tx K mg) : Fn P w K mg base 1 "is_whole" ["thing"] spWhole := by
  obtain ⟨fd, F⟩ := T.d_IsWhole
  refine ⟨fd, T.g_is_whole, F.kp, F.bindsN fun _ _ _ _ _ _ us hl => match us, hl with | [_], _ => rfl, F.ok scWhole (fun vs H Q E h => ?_) (fun cdv A outer s H vs Q E hr h => ?_)⟩
  · obtain ⟨i, rfl, _⟩ := h
    rfl
  · obtain ⟨i, rfl, k⟩ := h
    refine ⟨_, PSs.nox (pss_one (ps_ret (pe_and (pe_callB call_isi rfl T.f_isinstance boot_isinstance (pa_cons (pv 0) (pa_cons (pe_bltn (v := .ty "int") rfl T.f_int (by decide +kernel) rfl) pa_nil)))
      (pe_one (pe_not (pe_callB call_isi rfl T.f_isinstance boot_isinstance (pa_cons (pv 0) (pa_cons (pe_bltn (v := .ty "bool") rfl T.f_bool (by decide +kernel) rfl) pa_nil)))))))), ?_⟩
    refine ⟨_, rfl, _, _, _, _, true, rfl, .ty _, .base (.int _), kit_ty (by decide +kernel), true, rfl, iteT ?_⟩
    exact ⟨_, rfl, _, _, _, _, false, rfl, .ty _, .base (.int _), kit_ty (by decide +kernel), false, rfl, k⟩
/-! ### is_turning -/
def spTurning : Sp := fun vs H Q _ => ∃ (n : Nat) (a : Addr) (p : List Nat), vs = [.ref a] ∧ PermAt H a p ∧ IsP n p ∧ 1 ≤ n ∧ n ≤ 60 ∧ ∀ H', Same H H' → Q (.bl true) H'
theorem scTurning : FnScope ["thing", "seen", "to"] ["thing"] (defScope sIsTurning) := ⟨rfl, rfl, rfl, by decide +kernel, rfl, by decide +kernel, by decide +kernel⟩
def seenL (n : Nat) (q : List Nat) : List Bool := (List.range n).map fun j => decide (j ∈ q)
theorem seenL_at {n : Nat} {q : List Nat} {j : Nat} (h : j < n) : (seenL n q)[j]? = some (decide (j ∈ q)) := by
  unfold seenL
  rw [List.getElem?_map, List.getElem?_range h]
  rfl
theorem seenL_set {n : Nat} {q : List Nat} {j : Nat} : (seenL n q).set j true = seenL n (q ++ [j]) := by
  refine List.ext_getElem? fun i => ?_
  by_cases hi : i < n
  · rw [seenL_at hi, List.getElem?_set]
    by_cases e : j = i
    · subst e
      rw [if_pos rfl, if_pos (by unfold seenL; rw [List.length_map, List.length_range]; exact hi)]
      simp
    · rw [if_neg e, seenL_at hi]
      have e' : ¬ i = j := fun z => e z.symm
      simp [e']
  · rw [List.getElem?_eq_none (by unfold seenL; simp; omega), List.getElem?_eq_none (by unfold seenL; simp; omega)]
theorem fn_is_turning (T : Tx K mg) : Fn P w K mg base 2 "is_turning" ["thing"] spTurning := by
  obtain ⟨fd, F⟩ := T.d_IsTurning
  refine ⟨fd, T.g_is_turning, F.kp, F.bindsN fun _ _ _ _ _ _ us hl => match us, hl with | [_], _ => rfl, F.ok scTurning (fun vs H Q E h => ?_) (fun cdv A outer s H vs Q E hr h => ?_)⟩
  · obtain ⟨n, a, p, rfl, _⟩ := h
    rfl
  · obtain ⟨n, a, p, rfl, hp, ip, h1, h60, k⟩ := h
    obtain ⟨tM, hM⟩ := T.i_MOST
    refine ⟨_, PSs.nox (pss_cons
        (ps_if (PW.pt (pw_or (pt_not (pt_val (pe_callB call_isi rfl T.f_isinstance boot_isinstance (pa_cons (pv 0) (pa_cons (pe_bltn (v := .ty "tuple") rfl T.f_tuple (by decide +kernel) rfl) pa_nil)))))
            (pw_or (pt_cmpR op_lt (pe_callB call_len_seq rfl T.f_len boot_len (pa_cons (pv 0) pa_nil)) pe_int (nomark _))
              (pw_or1 (pt_cmpR op_gt (pe_callB call_len_seq rfl T.f_len boot_len (pa_cons (pv 0) pa_nil)) (pe_glob (v := .int 60) rfl hM ⟨tM, rfl⟩) (nomark _))))))
          (pss_one (ps_ret pe_bl)) pss_nil)
      (pss_cons (ps_set (i := 1) scTurning.nd rfl (Or.inl rfl) (pe_op op_rep (pe_lst (pa_cons pe_bl pa_nil)) (pe_callB call_len_seq rfl T.f_len boot_len (pa_cons (pv 0) pa_nil))))
      (pss_cons (ps_for PassesOwn.never rfl (pi_tup (pv 0)) (pg_name (i := 2) scTurning.nd rfl (Or.inl rfl))
        (pss_cons (ps_if (PW.pt (pw_or (pt_not (pt_val (pe_fn (fn_is_whole T) hr rfl (pa_cons (pv 2) pa_nil)))) (pw_or (pt_cmpR op_lt (pv 2) pe_int (nomark _)) (pw_or1 (pt_cmpR op_ge (pv 2) (pe_callB call_len_seq rfl T.f_len boot_len (pa_cons (pv 0) pa_nil)) (nomark _))))))
            (pss_one (ps_ret pe_bl)) pss_nil)
        (pss_cons (ps_if (pt_val (pe_ix ix_list (pv 1) (pv 2) (fun _ _ => rfl))) (pss_one (ps_ret pe_bl)) pss_nil)
        (pss_one (ps_asg pe_bl (pg_sub (pv 1) (pv 2) set_list))))))
      (pss_one (ps_ret pe_bl))))), ?_⟩
    have hl : (p.map nV).length = n := by rw [List.length_map]; exact ip.len
    refine ⟨_, rfl, _, _, _, _, true, rfl, .ty _, .base (.tup hp), kit_ty (by decide +kernel), true, rfl, iteF ?_⟩
    refine ⟨_, rfl, a, _, rfl, .inr (SqT.of hp), _, _, rfl, rfl, _, rfl, ?_⟩
    rw [hl, decide_eq_false (by omega : ¬ (n : Int) < 1)]
    refine iteF ?_
    refine ⟨_, rfl, a, _, rfl, .inr (SqT.of hp), _, _, rfl, rfl, _, rfl, ?_⟩
    rw [hl, decide_eq_false (by omega : ¬ (60 : Int) < (n : Int))]
    refine iteF ?_
    -- seen = [False] * len(thing)
    refine ⟨by decide, fun l0 n0 => ⟨_, rfl, a, _, rfl, .inr (SqT.of (same_upd n0 _ _ hp)), ?_⟩⟩
    rw [hl]
    refine ⟨l0, (n : Int), _, rfl, rfl, upd_same, by omega, by omega, by show 1 * _ ≤ _; rw [Int.toNat_natCast]; have := sizeN h60; omega, fun l nl => ?_⟩
    have el : (List.replicate ((n : Int)).toNat [V.bl false]).flatten = (seenL n []).map V.bl := by
      rw [Int.toNat_natCast]
      unfold seenL
      refine List.ext_getElem? fun i => ?_
      rw [List.flatten_replicate_singleton]
      by_cases hi : i < n
      · rw [List.getElem?_replicate, if_pos hi, List.getElem?_map, List.getElem?_map, List.getElem?_range hi]
        rfl
      · rw [List.getElem?_replicate, if_neg hi, List.getElem?_eq_none (by simp; omega)]
    rw [el]
    have nal : a ≠ l := ne_of_none (same_upd n0 _ _ hp) nl
    have s1 : Same H (upd H l0 (.lst [V.bl false])) := same_upd n0
    refine ⟨_, rfl, a, rfl, ⟨_, SqT.of (show upd (upd H l0 _) l _ a = _ by rw [upd_ne nal]; exact s1 _ _ hp)⟩, for_tup (K := K) (a := a) (xs := p.map nV)
      (fun i σ H2 => ∃ v : Option V, σ = [some (.ref a), some (.ref l), v] ∧ H2 = upd (upd H l0 (.lst [V.bl false])) l (.lst ((seenL n (p.take i)).map V.bl)))
      ⟨none, rfl, rfl⟩ (fun i σ H2 _ ⟨_, _, e⟩ => by rw [e]; exact SqT.of (by rw [upd_ne nal]; exact s1 _ _ hp)) ?_ ?_⟩
    · rintro i y σ H2 hi ⟨v, rfl, rfl⟩
      obtain ⟨x, hx, rfl⟩ := map_get hi
      have hxn : x < n := ip.mem_lt x (List.mem_of_getElem? hx)
      have hin : i < p.length := (List.getElem?_eq_some_iff.mp hx).1
      have hnot : x ∉ p.take i := fun hm => by
        obtain ⟨j, hj, e⟩ := List.getElem_of_mem hm
        rw [List.length_take] at hj
        have e2 : p[j]'(by omega) = x := by rw [← e, List.getElem_take]
        have e3 : p[i] = x := (List.getElem?_eq_some_iff.mp hx).2
        have := List.pairwise_iff_getElem.mp (List.nodup_iff_pairwise_ne.mp ip.nodup) j i (by omega) hin (by omega)
        exact this (e2.trans e3.symm)
      refine ⟨_, rfl, x, rfl, true, rfl, iteF ?_⟩
      refine ⟨_, rfl, _, _, rfl, rfl, _, rfl, ?_⟩
      rw [decide_eq_false (by omega : ¬ (x : Int) < 0)]
      refine iteF ⟨_, rfl, _, rfl, a, _, rfl, .inr (SqT.of (by rw [upd_ne nal]; exact s1 _ _ hp)), _, _, rfl, rfl, _, rfl, ?_⟩
      rw [hl, decide_eq_false (by omega : ¬ (n : Int) ≤ (x : Int))]
      refine iteF ?_
      refine ⟨_, rfl, _, rfl, l, _, _, _, rfl, rfl, SqL.of upd_same, atI_natV (v := V.bl false) (by rw [List.getElem?_map, seenL_at hxn, decide_eq_false hnot]; rfl), false, rfl, iteF ?_⟩
      refine ⟨_, rfl, _, rfl, l, _, _, x, rfl, rfl, upd_same, ixN_nat (by rw [List.length_map]; unfold seenL; rw [List.length_map, List.length_range]; exact hxn), ?_⟩
      refine ⟨_, rfl, ?_⟩
      have e1 : ((seenL n (p.take i)).map V.bl).set x (V.bl true) = (seenL n (p.take (i + 1))).map V.bl := by
        rw [← List.map_set, seenL_set, List.take_add_one, hx]
        rfl
      rw [upd_upd, e1]
    · rintro σ H2 ⟨v, rfl, rfl⟩
      exact k _ (s1.trans (same_upd nl))
end
end K43
/-! W2: still, behind, back, turned. -/
namespace K43
open PySem PySem.Spec PyProof.Rows L2
theorem boot_tup : bootBuiltins "tuple" = some (.type "tuple") := by decide +kernel
theorem rgV_nat (n : Nat) : rgV 0 (n : Int) = (List.range n).map nV := by
  unfold rgV nV
  rw [show ((n : Int) - 0).toNat = n by omega]
  exact List.map_congr_left fun i _ => by rw [Int.zero_add]
section
variable {P : Program} {w : World} {K : PySem.W.Frag} {mg : Str → Option Value} {base : Heap}
def spStill : Sp := fun vs H Q _ => ∃ n : Nat, vs = [.int (n : Int)] ∧ n ≤ 60 ∧ ∀ q H', Same H H' → PermAt H' q (List.range n) → Q (.ref q) H'
theorem scStill : FnScope ["many"] ["many"] (defScope sStill) := ⟨rfl, rfl, rfl, by decide +kernel, rfl, by decide +kernel, by decide +kernel⟩
theorem fn_still (T : Tx K mg) : Fn P w K mg base 1 "still" ["many"] spStill := by
  obtain ⟨fd, F⟩ := T.d_Still
  refine ⟨fd, T.g_still, F.kp, F.bindsN fun _ _ _ _ _ _ us hl => match us, hl with | [_], _ => rfl, F.ok scStill (fun vs H Q E h => ?_) (fun cdv A outer s H vs Q E hr h => ?_)⟩
  · obtain ⟨n, rfl, _⟩ := h
    rfl
  · obtain ⟨n, rfl, hn, k⟩ := h
    refine ⟨_, PSs.nox (pss_one (ps_ret (pe_tupRg rfl rfl T.f_tuple (prg_1 rfl T.f_range (pv 0))))), ?_⟩
    refine ⟨_, rfl, n, rfl, RgOk.of_le (by decide) (by omega) (by decide) (by omega), fun q hq => ?_⟩
    refine k q _ (same_upd hq) ?_
    show upd H q _ q = _
    rw [upd_same, rgV_nat]
def spBehind : Sp := fun vs H Q _ => ∃ (n : Nat) (a b : Addr) (p q : List Nat), vs = [.ref a, .ref b] ∧ PermAt H a p ∧ PermAt H b q ∧ p.length ≤ 60 ∧ q.length = n ∧ (∀ x, x ∈ p → x < n) ∧
  ∀ c H', Same H H' → PermAt H' c (mulL p q) → Q (.ref c) H'
theorem scBehind : FnScope ["one", "other", "to"] ["one", "other"] (defScope sBehind) := ⟨rfl, rfl, rfl, by decide +kernel, rfl, by decide +kernel, by decide +kernel⟩
theorem fn_behind (T : Tx K mg) : Fn P w K mg base 1 "behind" ["one", "other"] spBehind := by
  obtain ⟨fd, F⟩ := T.d_Behind
  refine ⟨fd, T.g_behind, F.kp, F.bindsN fun _ _ _ _ _ _ us hl => match us, hl with | [_, _], _ => rfl, F.ok scBehind (fun vs H Q E h => ?_) (fun cdv A outer s H vs Q E hr h => ?_)⟩
  · obtain ⟨n, a, b, p, q, rfl, _⟩ := h
    rfl
  · obtain ⟨n, a, b, p, q, rfl, ha, hb, hpl, hql, hlt, k⟩ := h
    refine ⟨_, PSs.nox (pss_one (ps_ret (pe_callTy call_tuple_of rfl T.f_tuple boot_tup (pa_cons
      (pe_lc (own := [("to", 2)]) (g := gName 2) (tt := tYes) rfl scBehind.nd (pi_tup (pv 0)) (blkOk_by (own := [("to", 2)]) (N := ["one", "other", "to"]) (sc := defScope sBehind) (by decide +kernel))
        (fun _ _ _ _ _ => pg_name (i := 2) scBehind.nd rfl (Or.inl rfl)) (fun _ _ _ _ _ => pts_nil) (fun _ _ _ _ _ => pe_ix (r := rIxT K) ix_tup (pv 1) (pv 2) (fun _ _ => rfl))) pa_nil)))), ?_⟩
    refine ⟨_, rfl, a, rfl, ⟨_, SqT.of ha⟩, fun D hD => lc_tup (K := K) (a := a) (xs := p.map nV) (fun i H2 => H2 = upd H D (.lst ((p.take i).map fun x => nV (ap q x)))) rfl
      (fun i H2 _ e => by rw [e]; exact SqT.of (same_upd hD _ _ ha)) ?_ ?_⟩
    · rintro i y H2 hi rfl
      obtain ⟨x, hx, rfl⟩ := map_get hi
      have hxn : x < q.length := by rw [hql]; exact hlt x (List.mem_of_getElem? hx)
      have hin := (List.getElem?_eq_some_iff.mp hx).1
      refine ⟨rfl, _, rfl, _, rfl, b, _, _, _, rfl, rfl, SqT.of (same_upd hD _ _ hb), atI_natV (v := nV (ap q x)) (by rw [List.getElem?_map, ap_get hxn]; rfl), _, upd_same, ?_, ?_⟩
      · rw [List.length_map, List.length_take]
        have : sizeLine = 16777216 := sizeLine_eq
        omega
      · rw [upd_upd, List.take_add_one, hx, List.map_append]
        rfl
    · rintro H2 rfl
      refine ⟨D, _, rfl, .inl ⟨SqL.of upd_same, fun l hl => k l _ ((same_upd hD).trans (same_upd hl)) ?_⟩⟩
      show upd _ l _ l = _
      rw [upd_same, List.length_map, List.take_length]
      unfold mulL
      rw [List.map_map]
      rfl
/-! ### back, turned: a list made place by place -/
theorem isP_set_len {ms : List Nat} {n i x : Nat} (h : ms.length = n) : (ms.set i x).length = n := by rw [List.length_set]; exact h
theorem ap_set_same {ms : List Nat} {i x : Nat} (h : i < ms.length) : ap (ms.set i x) i = x := by
  rw [ap_lt (by rw [List.length_set]; exact h), List.getElem_set_self]
theorem ap_set_ne {ms : List Nat} {i j x : Nat} (h : i ≠ j) : ap (ms.set i x) j = ap ms j := by
  unfold ap
  rw [List.getD_eq_getElem?_getD, List.getElem?_set_ne h, List.getD_eq_getElem?_getD]
theorem zerosV (n : Nat) : (List.replicate ((n : Int)).toNat [V.int 0]).flatten = (List.replicate n 0).map nV := by
  rw [Int.toNat_natCast, List.flatten_replicate_singleton, List.map_replicate]
  rfl
def spBack : Sp := fun vs H Q _ => ∃ (n : Nat) (a : Addr) (p : List Nat), vs = [.ref a] ∧ PermAt H a p ∧ IsP n p ∧ n ≤ 60 ∧ ∀ c H', Same H H' → PermAt H' c (invL p) → Q (.ref c) H'
theorem scBack : FnScope ["one", "made", "place", "to"] ["one"] (defScope sBack) := ⟨rfl, rfl, rfl, by decide +kernel, rfl, by decide +kernel, by decide +kernel⟩
theorem fn_back (T : Tx K mg) : Fn P w K mg base 1 "back" ["one"] spBack := by
  obtain ⟨fd, F⟩ := T.d_Back
  refine ⟨fd, T.g_back, F.kp, F.bindsN fun _ _ _ _ _ _ us hl => match us, hl with | [_], _ => rfl, F.ok scBack (fun vs H Q E h => ?_) (fun cdv A outer s H vs Q E hr h => ?_)⟩
  · obtain ⟨n, a, p, rfl, _⟩ := h
    rfl
  · obtain ⟨n, a, p, rfl, ha, ip, hn, k⟩ := h
    refine ⟨_, PSs.nox (pss_cons (ps_set (i := 1) scBack.nd rfl (Or.inl rfl) (pe_op op_rep (pe_lst (pa_cons pe_int pa_nil)) (pe_callB call_len_seq rfl T.f_len boot_len (pa_cons (pv 0) pa_nil))))
      (pss_cons (ps_for PassesOwn.never rfl (pi_enumT rfl T.f_enumerate (pa_cons (pv 0) pa_nil)) (pg_tup rfl (pgs_cons (pg_name (i := 2) scBack.nd rfl (Or.inl rfl)) (pgs_cons (pg_name (i := 3) scBack.nd rfl (Or.inl rfl)) pgs_nil)))
        (pss_one (ps_asg (pv 2) (pg_sub (pv 1) (pv 3) set_list))))
      (pss_one (ps_ret (pe_callTy call_tuple_of rfl T.f_tuple boot_tup (pa_cons (pv 1) pa_nil)))))), ?_⟩
    have hl : (p.map nV).length = n := by rw [List.length_map]; exact ip.len
    refine ⟨by decide, fun l0 n0 => ⟨_, rfl, a, _, rfl, .inr (SqT.of (same_upd n0 _ _ ha)), ?_⟩⟩
    rw [hl]
    refine ⟨l0, (n : Int), _, rfl, rfl, upd_same, by omega, by omega, by show 1 * _ ≤ _; rw [Int.toNat_natCast]; have := sizeN hn; omega, fun l nl => ?_⟩
    rw [zerosV]
    have nal : a ≠ l := ne_of_none (same_upd n0 _ _ ha) nl
    have s1 : Same H (upd (upd H l0 (.lst [V.int 0])) l (.lst ((List.replicate n 0).map nV))) := (same_upd n0).trans (same_upd nl)
    have nl0 : H l = none := (same_upd n0).free nl
    refine ⟨_, rfl, a, _, rfl, SqT.of (s1 _ _ ha), for_enumT (K := K) (a := a) (xs := p.map nV)
      (fun i σ H2 => ∃ (v v2 : Option V) (ms : List Nat), σ = [some (.ref a), some (.ref l), v, v2] ∧ Same H H2 ∧ H2 l = some (.lst (ms.map nV)) ∧ ms.length = n ∧ ∀ j, j < i → j < n → ap ms (ap p j) = j)
      ⟨none, none, List.replicate n 0, rfl, s1, upd_same, List.length_replicate, fun j h => absurd h (Nat.not_lt_zero j)⟩ (fun i σ H2 _ ⟨_, _, _, _, e, _⟩ => SqT.of (e _ _ ha)) ?_ ?_⟩
    · rintro i y T0 σ H2 hi ⟨v, v2, ms, rfl, sm, hL, hml, hap⟩ hT
      obtain ⟨x, hx, rfl⟩ := map_get hi
      have hin : i < p.length := (List.getElem?_eq_some_iff.mp hx).1
      have hxe : ap p i = x := by rw [ap_get hin] at hx; exact Option.some.inj hx
      have hxn : x < n := ip.mem_lt x (List.mem_of_getElem? hx)
      have hlT : l ≠ T0 := ne_of_none hL hT
      refine ⟨T0, _, rfl, SqT.of upd_same, rfl, _, _, rfl, _, _, rfl, rfl, ?_⟩
      refine ⟨_, rfl, _, rfl, _, rfl, l, _, _, x, rfl, rfl, by rw [upd_ne hlT]; exact hL, ixN_nat (by rw [List.length_map, hml]; exact hxn), ?_⟩
      refine ⟨_, _, ms.set x i, rfl, fun b o e => ?_, ?_, isP_set_len hml, fun j hj hjn => ?_⟩
      · have hbl : b ≠ l := ne_of_none e nl0
        rw [upd_ne hbl, upd_ne (ne_of_none (sm _ _ e) hT)]
        exact sm _ _ e
      · rw [upd_same, List.map_set]
        rfl
      · by_cases e : j = i
        · subst e
          rw [hxe, ap_set_same (by rw [hml]; exact hxn)]
        · rw [ap_set_ne (fun z => e (ip.inj _ _ hjn (ip.len ▸ hin) (by rw [hxe, ← z])))]
          exact hap j (by omega) hjn
    · rintro σ H2 ⟨v, v2, ms, rfl, sm, hL, hml, hap⟩
      rw [hl] at hap
      refine ⟨_, rfl, l, _, rfl, .inl ⟨SqL.of hL, fun c hc => k c _ (sm.trans (same_upd hc)) ?_⟩⟩
      show upd _ c _ c = _
      rw [upd_same, invL_eq ip hml fun i hi => hap i hi hi]
/-- l turned about by g -/
def turnL (n : Nat) (l g : List Nat) : List Nat := (List.range n).map fun j => ap g (ap l (ap (invL g) j))
theorem turnL_eq {n : Nat} {l g r : List Nat} (hg : IsP n g) (hl : r.length = n) (h : ∀ i, i < n → ap r (ap g i) = ap g (ap l i)) : r = turnL n l g := by
  refine ap_ext (by rw [hl]; unfold turnL; rw [List.length_map, List.length_range]) fun j hj => ?_
  rw [hl] at hj
  obtain ⟨i, hi, rfl⟩ := hg.surj hj
  unfold turnL
  rw [h i hi, ap_map (by rw [List.length_range]; exact hg.lt i hi), ap_range, invL_ap hg hi]
def spTurned : Sp := fun vs H Q _ => ∃ (n : Nat) (a b : Addr) (p g : List Nat), vs = [.ref a, .ref b] ∧ PermAt H a p ∧ PermAt H b g ∧ IsP n p ∧ IsP n g ∧ n ≤ 60 ∧ ∀ c H', Same H H' → PermAt H' c (turnL n p g) → Q (.ref c) H'
theorem scTurned : FnScope ["one", "by", "made", "place", "to"] ["one", "by"] (defScope sTurned) := ⟨rfl, rfl, rfl, by decide +kernel, rfl, by decide +kernel, by decide +kernel⟩
theorem fn_turned (T : Tx K mg) : Fn P w K mg base 1 "turned" ["one", "by"] spTurned := by
  obtain ⟨fd, F⟩ := T.d_Turned
  refine ⟨fd, T.g_turned, F.kp, F.bindsN fun _ _ _ _ _ _ us hl => match us, hl with | [_, _], _ => rfl, F.ok scTurned (fun vs H Q E h => ?_) (fun cdv A outer s H vs Q E hr h => ?_)⟩
  · obtain ⟨n, a, b, p, g, rfl, _⟩ := h
    rfl
  · obtain ⟨n, a, b, p, g, rfl, ha, hb, ip, ig, hn, k⟩ := h
    refine ⟨_, PSs.nox (pss_cons (ps_set (i := 2) scTurned.nd rfl (Or.inl rfl) (pe_op op_rep (pe_lst (pa_cons pe_int pa_nil)) (pe_callB call_len_seq rfl T.f_len boot_len (pa_cons (pv 0) pa_nil))))
      (pss_cons (ps_for PassesOwn.never rfl (pi_enumT rfl T.f_enumerate (pa_cons (pv 0) pa_nil)) (pg_tup rfl (pgs_cons (pg_name (i := 3) scTurned.nd rfl (Or.inl rfl)) (pgs_cons (pg_name (i := 4) scTurned.nd rfl (Or.inl rfl)) pgs_nil)))
        (pss_one (ps_asg (pe_ix ix_tup (pv 1) (pv 4) (fun _ _ => rfl)) (pg_sub (pv 2) (pe_ix ix_tup (pv 1) (pv 3) (fun _ _ => rfl)) set_list))))
      (pss_one (ps_ret (pe_callTy call_tuple_of rfl T.f_tuple boot_tup (pa_cons (pv 2) pa_nil)))))), ?_⟩
    have hl : (p.map nV).length = n := by rw [List.length_map]; exact ip.len
    refine ⟨by decide, fun l0 n0 => ⟨_, rfl, a, _, rfl, .inr (SqT.of (same_upd n0 _ _ ha)), ?_⟩⟩
    rw [hl]
    refine ⟨l0, (n : Int), _, rfl, rfl, upd_same, by omega, by omega, by show 1 * _ ≤ _; rw [Int.toNat_natCast]; have := sizeN hn; omega, fun l nl => ?_⟩
    rw [zerosV]
    have s1 : Same H (upd (upd H l0 (.lst [V.int 0])) l (.lst ((List.replicate n 0).map nV))) := (same_upd n0).trans (same_upd nl)
    have nl0 : H l = none := (same_upd n0).free nl
    refine ⟨_, rfl, a, _, rfl, SqT.of (s1 _ _ ha), for_enumT (K := K) (a := a) (xs := p.map nV)
      (fun i σ H2 => ∃ (v v2 : Option V) (ms : List Nat), σ = [some (.ref a), some (.ref b), some (.ref l), v, v2] ∧ Same H H2 ∧ H2 l = some (.lst (ms.map nV)) ∧ ms.length = n ∧ ∀ j, j < i → j < n → ap ms (ap g j) = ap g (ap p j))
      ⟨none, none, List.replicate n 0, rfl, s1, upd_same, List.length_replicate, fun j h => absurd h (Nat.not_lt_zero j)⟩ (fun i σ H2 _ ⟨_, _, _, _, e, _⟩ => SqT.of (e _ _ ha)) ?_ ?_⟩
    · rintro i y T0 σ H2 hi ⟨v, v2, ms, rfl, sm, hL, hml, hap⟩ hT
      obtain ⟨x, hx, rfl⟩ := map_get hi
      have hin : i < p.length := (List.getElem?_eq_some_iff.mp hx).1
      have hinn : i < n := ip.len ▸ hin
      have hxe : ap p i = x := by rw [ap_get hin] at hx; exact Option.some.inj hx
      have hxn : x < n := ip.mem_lt x (List.mem_of_getElem? hx)
      have hlT : l ≠ T0 := ne_of_none hL hT
      have hbT : (upd H2 T0 (.tup [.int (i : Nat), nV x])) b = some (.tup (g.map nV)) := by rw [upd_ne (ne_of_none (sm _ _ hb) hT)]; exact sm _ _ hb
      have atg : ∀ {z : Nat}, z < n → atI (g.map nV) (z : Int) = some (nV (ap g z)) := fun {z} hz => atI_natV (by rw [List.getElem?_map, ap_get (by rw [ig.len]; exact hz)]; rfl)
      refine ⟨T0, _, rfl, SqT.of upd_same, rfl, _, _, rfl, _, _, rfl, rfl, ?_⟩
      refine ⟨_, rfl, _, rfl, b, _, _, _, rfl, rfl, SqT.of hbT, atg hxn, ?_⟩
      refine ⟨_, rfl, _, rfl, _, rfl, b, _, _, _, rfl, rfl, SqT.of hbT, atg hinn, l, _, _, ap g i, rfl, rfl, by rw [upd_ne hlT]; exact hL, ixN_nat (by rw [List.length_map, hml]; exact ig.lt i hinn), ?_⟩
      refine ⟨_, _, ms.set (ap g i) (ap g x), rfl, fun b o e => ?_, ?_, isP_set_len hml, fun j hj hjn => ?_⟩
      · have hbl : b ≠ l := ne_of_none e nl0
        rw [upd_ne hbl, upd_ne (ne_of_none (sm _ _ e) hT)]
        exact sm _ _ e
      · rw [upd_same, List.map_set]
      · by_cases e : j = i
        · subst e
          rw [hxe, ap_set_same (by rw [hml]; exact ig.lt _ hjn)]
        · rw [ap_set_ne (fun z => e (ig.inj _ _ hjn hinn z.symm))]
          exact hap j (by omega) hjn
    · rintro σ H2 ⟨v, v2, ms, rfl, sm, hL, hml, hap⟩
      rw [hl] at hap
      refine ⟨_, rfl, l, _, rfl, .inl ⟨SqL.of hL, fun c hc => k c _ (sm.trans (same_upd hc)) ?_⟩⟩
      show upd _ c _ c = _
      rw [upd_same, turnL_eq ig hml fun i hi => hap i hi hi]
end
end K43
/-! W3: what a chain is in the heap; Step.__init__, Chain.noted, Chain.line_of, Chain.__init__. -/
namespace K43
open PySem PySem.Spec PyProof.Rows L2
/-- all that was tracked stands, but D -/
def Ex (D : List Addr) (H H' : Hp) : Prop := ∀ b o, H b = some o → b ∉ D → H' b = some o
theorem Ex.refl (D : List Addr) (H : Hp) : Ex D H H := fun _ _ e _ => e
theorem Ex.of {D : List Addr} {H H' : Hp} (h : Same H H') : Ex D H H' := fun b o e _ => h b o e
theorem Ex.trans {D : List Addr} {H H1 H2 : Hp} (a : Ex D H H1) (b : Ex D H1 H2) : Ex D H H2 := fun c o e h => b c o (a c o e h) h
theorem Ex.mono {D D' : List Addr} {H H' : Hp} (a : Ex D H H') (h : ∀ b, b ∈ D → b ∈ D') : Ex D' H H' := fun c o e q => a c o e fun z => q (h c z)
theorem Ex.upd {D : List Addr} {H : Hp} {a : Addr} {o : HO} (h : a ∈ D) : Ex D H (upd H a o) := fun c u e q => by
  rw [upd_ne fun z => q (by rw [z]; exact h)]
  exact e
theorem Ex.one {H : Hp} {a : Addr} {o : HO} : Ex [a] H (L2.upd H a o) := Ex.upd (List.mem_singleton.mpr rfl)
/-- a key's tuples stand -/
def Tups (H H' : Hp) : Prop := ∀ b xs, H b = some (.tup xs) → H' b = some (.tup xs)
theorem Tups.same {H H' : Hp} (h : Same H H') : Tups H H' := fun b _ e => h b _ e
theorem Tups.trans {H H1 H2 : Hp} (a : Tups H H1) (b : Tups H1 H2) : Tups H H2 := fun c xs e => b c xs (a c xs e)
theorem Tups.upd {H : Hp} {a : Addr} {o u : HO} (h : H a = some u) (hu : ∀ xs, u ≠ .tup xs) : Tups H (L2.upd H a o) := fun b xs e => by
  rw [upd_ne (ne_of e h fun z => hu xs z.symm)]
  exact e
/-- a turning and its line at t -/
def Lp (H : Hp) (t : Addr) (p : List Nat) : Prop := ∃ (u : Addr) (l : Int), H t = some (.tup [.ref u, .int l]) ∧ PermAt H u p
theorem Lp.tups {H H' : Hp} {t : Addr} {p : List Nat} (h : Lp H t p) (s : Tups H H') : Lp H' t p := let ⟨u, l, a, b⟩ := h; ⟨u, l, s _ _ a, s _ _ b⟩
section
variable {n : Nat}
def LRel (H : Hp) (kvs : List (Key × V)) (L : List (Nat × Pn n)) : Prop := Paired (fun (kv : Key × V) (e : Nat × Pn n) => kv.1 = Sum.inl (e.1 : Int) ∧ ∃ t, kv.2 = .ref t ∧ Lp H t e.2.1) kvs L
theorem LRel.tups {H H' : Hp} {kvs : List (Key × V)} {L : List (Nat × Pn n)} (h : LRel H kvs L) (s : Tups H H') : LRel H' kvs L := Paired.mapP h fun _ _ ⟨a, t, b, c⟩ => ⟨a, t, b, c.tups s⟩
theorem key_nat {a b : Nat} : (Sum.inl (a : Int) : Key) = Sum.inl (b : Int) ↔ a = b := by
  constructor
  · intro h
    have := Sum.inl.inj h
    omega
  · rintro rfl
    rfl
theorem LRel.none_ {H : Hp} : ∀ {kvs : List (Key × V)} {L : List (Nat × Pn n)} {k : Nat}, LRel H kvs L → L.lookup k = none → valV kvs (Sum.inl (k : Int)) = none
  | _, _, _, .nil, _ => valV_nil
  | _, _, k, .cons (a := p) (b := q) ⟨e, _⟩ r, h => by
    obtain ⟨a, u⟩ := q
    rw [List.lookup_cons] at h
    cases z : k == a with
    | true => rw [z] at h; cases h
    | false =>
      rw [z] at h
      rw [valV_neg (fun q => by rw [e] at q; exact beq_eq_false_iff_ne.mp z (key_nat.mp q).symm)]
      exact LRel.none_ r h
theorem LRel.some_ {H : Hp} : ∀ {kvs : List (Key × V)} {L : List (Nat × Pn n)} {k : Nat} {u : Pn n}, LRel H kvs L → L.lookup k = some u → ∃ t, valV kvs (Sum.inl (k : Int)) = some (.ref t) ∧ Lp H t u.1
  | _, _, _, _, .nil, h => nomatch h
  | _, _, k, u, .cons (a := p) (b := q) ⟨e, t, e2, lp⟩ r, h => by
    obtain ⟨a, v⟩ := q
    rw [List.lookup_cons] at h
    cases z : k == a with
    | true =>
      rw [z] at h
      cases h
      refine ⟨t, ?_, lp⟩
      rw [valV_pos (by rw [e]; exact key_nat.mpr (beq_iff_eq.mp z).symm), e2]
    | false =>
      rw [z] at h
      rw [valV_neg (fun q => by rw [e] at q; exact beq_eq_false_iff_ne.mp z (key_nat.mp q).symm)]
      exact LRel.some_ r h
def LiftsAt (H : Hp) (d : Addr) (L : List (Nat × Pn n)) : Prop := ∃ kvs, H d = some (.dK kvs) ∧ LRel H kvs L
def MRel (H : Hp) (xs : List V) (M : List (Pn n)) : Prop := Paired (fun (x : V) (p : Pn n) => ∃ t, x = .ref t ∧ Lp H t p.1) xs M
theorem MRel.tups {H H' : Hp} {xs : List V} {M : List (Pn n)} (h : MRel H xs M) (s : Tups H H') : MRel H' xs M := Paired.mapP h fun _ _ ⟨t, b, c⟩ => ⟨t, b, c.tups s⟩
def MkAt (H : Hp) (m : Addr) (M : List (Pn n)) : Prop := ∃ xs, H m = some (.lst xs) ∧ MRel H xs M
end
def stepF (s : Nat) (d m : Addr) : List (Str × V) := [("place", .int (s : Int)), ("lifts", .ref d), ("makers", .ref m)]
theorem stepF_place (s : Nat) (d m : Addr) : (stepF s d m).lookup ("place" : Str) = some (.int (s : Int)) := by rfl
theorem stepF_lifts (s : Nat) (d m : Addr) : (stepF s d m).lookup ("lifts" : Str) = some (.ref d) := by rfl
theorem stepF_makers (s : Nat) (d m : Addr) : (stepF s d m).lookup ("makers" : Str) = some (.ref m) := by rfl
def chainF (n : Nat) (l st : Addr) : List (Str × V) := [("many", .int (n : Int)), ("lines", .ref l), ("steps", .ref st)]
theorem chainF_many (n : Nat) (l st : Addr) : (chainF n l st).lookup ("many" : Str) = some (.int (n : Int)) := by rfl
theorem chainF_lines (n : Nat) (l st : Addr) : (chainF n l st).lookup ("lines" : Str) = some (.ref l) := by rfl
theorem chainF_steps (n : Nat) (l st : Addr) : (chainF n l st).lookup ("steps" : Str) = some (.ref st) := by rfl
theorem chainF_noted (n : Nat) (l st : Addr) : (chainF n l st).lookup ("noted" : Str) = none := by rfl
/-- where a chain's parts stand: the chain, its lines, its list of steps; each step, its lifts, its makers -/
structure CA where
  c : Addr
  lines : Addr
  steps : Addr
  st : List (Addr × Addr × Addr)
def CA.mut (A : CA) : List Addr := A.lines :: (A.st.map (·.2.1) ++ A.st.map (·.2.2))
structure StAt (K : PySem.W.Frag) (H : Hp) (s : Nat) (x d m : Addr) : Prop where
  ob : ∃ dx, H x = some (.ins (He.ga K "Step") dx (stepF s d m))
section
variable {n : Nat}
structure ChAt (K : PySem.W.Frag) (H : Hp) (A : CA) (S : List (Stp n)) (B : Nat) : Prop where
  ob : ∃ dx, H A.c = some (.ins (He.ga K "Chain") dx (chainF n A.lines A.steps))
  ln : ∃ xs, H A.lines = some (.lst xs) ∧ xs.length ≤ B
  sl : H A.steps = some (.lst (A.st.map fun z => .ref z.1))
  len : A.st.length = n
  lenS : S.length = n
  st : ∀ (s : Nat) (x d m : Addr), A.st[s]? = some (x, d, m) → StAt K H s x d m
  lf : ∀ (s : Nat) (x d m : Addr) (z : Stp n), A.st[s]? = some (x, d, m) → S[s]? = some z → LiftsAt H d z.lifts
  mks : ∀ (s : Nat) (x d m : Addr) (z : Stp n), A.st[s]? = some (x, d, m) → S[s]? = some z → MkAt H m z.makers
  ndd : (A.st.map (·.2.1)).Nodup
  ndm : (A.steps :: A.lines :: A.st.map (·.2.2)).Nodup
end
section
variable {P : Program} {w : World} {K : PySem.W.Frag} {mg : Str → Option Value} {base : Heap}
/-! ### Step.__init__ -/
def spStep (K : PySem.W.Frag) : Sp := fun vs H Q _ => ∃ (x dx : Addr) (n s : Nat), vs = [.ref x, .int (s : Int), .int (n : Int)] ∧ n ≤ 60 ∧ H x = some (.ins (He.ga K "Step") dx []) ∧
  ∀ H' d m t, (∀ b o, H b = some o → b ≠ x → H' b = some o) → StAt K H' s x d m → H' d = some (.dK [(Sum.inl (s : Int), .ref t)]) → Lp H' t (List.range n) → H' m = some (.lst []) → H d = none → H m = none → Q .non H'
theorem scStep : FnScope ["self", "place", "many"] ["self", "place", "many"] (defScope sStepInit) := ⟨rfl, rfl, rfl, by decide +kernel, rfl, by decide +kernel, by decide +kernel⟩
theorem mc_step (T : Tx K mg) : Mc P w K mg base 2 "Step" ["self", "place", "many"] [] (spStep K) := by
  obtain ⟨fd, F⟩ := T.d_StepInit
  refine ⟨fd, _, [], T.g_Step, T.k_Step, .nil, F.bindsN fun _ _ _ _ _ _ us hl => match us, hl with | [_, _, _], _ => rfl, F.ok scStep (fun vs H Q E h => ?_) (fun cdv A outer s H vs Q E hr h => ?_)⟩
  · obtain ⟨x, dx, n, s, rfl, _⟩ := h
    rfl
  · obtain ⟨x, dx, n, s, rfl, hn, hx, k⟩ := h
    refine ⟨_, PSs.nox (pss_cons (ps_fld (pv 0) (pv 1) rfl)
      (pss_cons (ps_fld (pv 0) (pe_disp (pps_cons (pv 1) (pe_tup (pa_cons (pe_fn (fn_still T) hr rfl (pa_cons (pv 2) pa_nil)) (pa_cons pe_int pa_nil))) pps_nil) (by rfl) (by rfl) (fun z => by cases z) (by decide)) rfl)
      (pss_one (ps_fld (pv 0) (pe_lst pa_nil) rfl)))), ?_⟩
    refine ⟨_, rfl, _, rfl, x, _, dx, [], rfl, hx, T.c_Step, T.n_Step_place, (by show 0 < 1000; decide), ?_⟩
    -- self.lifts = {place: (still(many), 0)}
    intro d hd
    have hxd : x ≠ d := ne_of_none upd_same hd
    refine ⟨_, rfl, _, rfl, n, rfl, hn, fun u H1 s1 hu => ⟨(by show 2 ≤ sizeLine; decide), fun t ht => ?_⟩⟩
    have hd1 : H1 d = some (.dK []) := s1 _ _ upd_same
    have hdt : d ≠ t := ne_of_none hd1 ht
    have hut : u ≠ t := ne_of_none hu ht
    refine ⟨by rw [upd_ne hdt]; exact hd1, [(Sum.inl (s : Int), .ref t)], rfl, (by show 1 ≤ 15; decide), ?_⟩
    have hx1 : H1 x = some (.ins (He.ga K "Step") dx (putF "place" (.int (s : Int)) [])) := s1 _ _ (by rw [upd_ne hxd]; exact upd_same)
    have hxt : x ≠ t := ne_of_none hx1 ht
    refine ⟨_, rfl, x, _, dx, _, rfl, (by rw [upd_ne hxd, upd_ne hxt]; exact hx1), T.c_Step, T.n_Step_lifts, (by show 1 < 1000; decide), ?_⟩
    -- self.makers = []
    refine ⟨by decide, fun m hm => ?_⟩
    have hxm : x ≠ m := ne_of_none upd_same hm
    refine ⟨_, rfl, x, _, dx, _, rfl, (by rw [upd_ne hxm]; exact upd_same), T.c_Step, T.n_Step_makers, (by show 2 < 1000; decide), ?_⟩
    have hm3 : H1 m = none ∧ m ≠ t ∧ m ≠ d := by
      rw [upd_ne (Ne.symm hxm)] at hm
      by_cases e1 : m = d
      · subst e1
        rw [upd_same] at hm
        cases hm
      · rw [upd_ne e1] at hm
        by_cases e2 : m = t
        · subst e2
          rw [upd_same] at hm
          cases hm
        · rw [upd_ne e2] at hm
          exact ⟨hm, e2, e1⟩
    have old : ∀ b o, H b = some o → b ≠ x → H1 b = some o := fun b o e hb => s1 _ _ (by
      have e' : upd H x (.ins (He.ga K "Step") dx (putF "place" (.int (s : Int)) [])) b = some o := by rw [upd_ne hb]; exact e
      rw [upd_ne (ne_of_none e' hd)]
      exact e')
    have none_of : ∀ {a : Addr}, a ≠ x → H1 a = none → H a = none := fun {a} hax q => by
      cases e : H a with
      | none => rfl
      | some o =>
        rw [old a o e hax] at q
        cases q
    refine k _ d m t (fun b o e hb => ?_) ⟨dx, ?_⟩ ?_ ⟨u, 0, ?_, ?_⟩ ?_ ?_ ?_
    · have e1 := old b o e hb
      have hbt := ne_of_none e1 ht
      have hbm : b ≠ m := ne_of_none e1 hm3.1
      have hbd : b ≠ d := by
        have e' : upd H x (.ins (He.ga K "Step") dx (putF "place" (.int (s : Int)) [])) b = some o := by rw [upd_ne hb]; exact e
        exact ne_of_none e' hd
      rw [upd_ne hb, upd_ne hbm, upd_ne hb, upd_ne hbd, upd_ne hbt]
      exact e1
    · rw [upd_same]
      rfl
    · rw [upd_ne (Ne.symm hxd), upd_ne (Ne.symm hm3.2.2), upd_ne (Ne.symm hxd), upd_same]
      rfl
    · rw [upd_ne (Ne.symm hxt), upd_ne (Ne.symm hm3.2.1), upd_ne (Ne.symm hxt), upd_ne (Ne.symm hdt), upd_same]
    · have hux : u ≠ x := ne_of hu hx1 (fun z => nomatch z)
      have hud : u ≠ d := ne_of hu hd1 (fun z => nomatch z)
      show upd _ x _ u = _
      rw [upd_ne hux, upd_ne (ne_of_none hu hm3.1), upd_ne hux, upd_ne hud, upd_ne hut]
      exact hu
    · rw [upd_ne (Ne.symm hxm), upd_same]
    · rw [upd_ne (Ne.symm hxd)] at hd
      exact hd
    · exact none_of (Ne.symm hxm) hm3.1
/-! ### noted, line_of -/
def spNoted (K : PySem.W.Frag) : Sp := fun vs H Q _ => ∃ (c l st dx : Addr) (n : Nat) (v : V) (xs : List V), vs = [.ref c, v] ∧ H c = some (.ins (He.ga K "Chain") dx (chainF n l st)) ∧ H l = some (.lst xs) ∧ xs.length < 1000000 ∧
  Q (.int (xs.length : Int)) (upd H l (.lst (xs ++ [v])))
theorem scNoted : FnScope ["self", "line"] ["self", "line"] (defScope sChainNoted) := ⟨rfl, rfl, rfl, by decide +kernel, rfl, by decide +kernel, by decide +kernel⟩
theorem me_noted (T : Tx K mg) : Me P w K mg base 1 (He.ga K "Chain") "noted" ["self", "line"] (spNoted K) := by
  obtain ⟨fd, F⟩ := T.d_ChainNoted
  refine ⟨fd, _, T.c_Chain, T.m_Chain_noted, F.bindsN fun _ _ _ _ _ _ us hl => match us, hl with | [_, _], _ => rfl, F.ok scNoted (fun vs H Q E h => ?_) (fun cdv A outer s H vs Q E hr h => ?_)⟩
  · obtain ⟨c, l, st, dx, n, v, xs, rfl, _⟩ := h
    rfl
  · obtain ⟨c, l, st, dx, n, v, xs, rfl, hc, hl, hlen, k⟩ := h
    refine ⟨_, PSs.nox (pss_cons (ps_expr (pe_bm PySem.F.plainAttrs_list PySem.F.slot_list_append PySem.F.type_list_append mt_append (pe_fld (pv 0) rfl) (pa_cons (pv 1) pa_nil)))
      (pss_one (ps_ret (pe_op op_sub (pe_callB call_len_seq rfl T.f_len boot_len (pa_cons (pe_fld (pv 0) rfl) pa_nil)) pe_int)))), ?_⟩
    have hcl : c ≠ l := ne_of hc hl (fun z => nomatch z)
    refine ⟨_, rfl, c, _, dx, _, _, rfl, hc, T.c_Chain, T.n_Chain_lines, chainF_lines _ _ _, .inl ⟨rfl, _, SqL.of hl⟩, _, rfl, l, xs, v, rfl, rfl, hl, Nat.lt_trans hlen (by decide), ?_⟩
    refine ⟨_, rfl, c, _, dx, _, _, rfl, (by rw [upd_ne hcl]; exact hc), T.c_Chain, T.n_Chain_lines, chainF_lines _ _ _, l, _, rfl, .inl (SqL.of upd_same), _, _, rfl, rfl, ?_⟩
    have e : (((xs ++ [v]).length : Nat) : Int) - 1 = (xs.length : Int) := by
      rw [List.length_append, List.length_singleton]
      omega
    show Q (.int ((((xs ++ [v]).length : Nat) : Int) - 1)) _
    rw [e]
    exact k
end
end K43
/-! W4: Chain.line_of, Chain.rest, Chain.has. -/
namespace K43
open PySem PySem.Spec PyProof.Rows L2
theorem cut_from {xs : List V} {k : Nat} (h : k ≤ xs.length) : cutV xs (some (k : Int)) none = xs.drop k := by
  unfold cutV
  rw [HT.sIx_none, HT.sIx_nat, Nat.min_eq_left h, List.take_of_length_le (by rw [List.length_drop]; exact Nat.le_refl _)]
section
variable {n : Nat}
theorem LiftsAt.same {H H' : Hp} {d : Addr} {L : List (Nat × Pn n)} (h : LiftsAt H d L) (s : Same H H') : LiftsAt H' d L := let ⟨kvs, a, b⟩ := h; ⟨kvs, s _ _ a, b.tups (.same s)⟩
theorem MkAt.same {H H' : Hp} {d : Addr} {L : List (Pn n)} (h : MkAt H d L) (s : Same H H') : MkAt H' d L := let ⟨kvs, a, b⟩ := h; ⟨kvs, s _ _ a, b.tups (.same s)⟩
theorem StAt.same {K : PySem.W.Frag} {H H' : Hp} {s : Nat} {x d m : Addr} (h : StAt K H s x d m) (e : Same H H') : StAt K H' s x d m := let ⟨dx, a⟩ := h.ob; ⟨dx, e _ _ a⟩
theorem ChAt.same {K : PySem.W.Frag} {H H' : Hp} {A : CA} {S : List (Stp n)} {B : Nat} (h : ChAt K H A S B) (s : Same H H') : ChAt K H' A S B where
  ob := let ⟨dx, a⟩ := h.ob; ⟨dx, s _ _ a⟩
  ln := let ⟨xs, a, b⟩ := h.ln; ⟨xs, s _ _ a, b⟩
  sl := s _ _ h.sl
  len := h.len
  lenS := h.lenS
  st := fun i x d m e => (h.st i x d m e).same s
  lf := fun i x d m z e q => (h.lf i x d m z e q).same s
  mks := fun i x d m z e q => (h.mks i x d m z e q).same s
  ndd := h.ndd
  ndm := h.ndm
end
section
variable {P : Program} {w : World} {K : PySem.W.Frag} {mg : Str → Option Value} {base : Heap}
def spLineOf (K : PySem.W.Frag) : Sp := fun vs H Q _ => ∃ (c l st dx t : Addr) (n : Nat) (is : List Int) (xs : List V), vs = [.ref c, .ref t] ∧ H c = some (.ins (He.ga K "Chain") dx (chainF n l st)) ∧ H l = some (.lst xs) ∧ xs.length < 900000 ∧
  H t = some (.tup (is.map V.int)) ∧ (is.length = 1 ∨ is.length = 3) ∧ ∀ H' (i : Int) ys, Ex [l] H H' → H' l = some (.lst ys) → ys.length ≤ xs.length + 3 → Q (.int i) H'
theorem scLineOf : FnScope ["self", "made", "ahead", "last"] ["self", "made"] (defScope sChainLineOf) := ⟨rfl, rfl, rfl, by decide +kernel, rfl, by decide +kernel, by decide +kernel⟩
theorem me_line_of (T : Tx K mg) : Me P w K mg base 2 (He.ga K "Chain") "line_of" ["self", "made"] (spLineOf K) := by
  obtain ⟨fd, F⟩ := T.d_ChainLineOf
  refine ⟨fd, _, T.c_Chain, T.m_Chain_line_of, F.bindsN fun _ _ _ _ _ _ us hl => match us, hl with | [_, _], _ => rfl, F.ok scLineOf (fun vs H Q E h => ?_) (fun cdv A outer s H vs Q E hr h => ?_)⟩
  · obtain ⟨c, l, st, dx, t, n, is, xs, rfl, _⟩ := h
    rfl
  · obtain ⟨c, l, st, dx, t, n, is, xs, rfl, hc, hl, hlen, ht, his, k⟩ := h
    refine ⟨_, PSs.nox (pss_cons (ps_if (pt_cmpR op_eq (pe_callB call_len_seq rfl T.f_len boot_len (pa_cons (pv 1) pa_nil)) pe_int (nomark _)) (pss_one (ps_ret (pe_ix ix_tup (pv 1) pe_int (fun _ _ => rfl)))) pss_nil)
      (pss_cons (ps_set (i := 2) scLineOf.nd rfl (Or.inl rfl) (pe_me (me_noted T) (pv 0) hr (pa_cons (pe_tup (pa_cons pe_str (pa_cons (pe_ix ix_tup (pv 1) pe_int (fun _ _ => rfl)) (pa_cons (pe_ix ix_tup (pv 1) pe_int (fun _ _ => rfl)) pa_nil)))) pa_nil)))
      (pss_cons (ps_set (i := 3) scLineOf.nd rfl (Or.inl rfl) (pe_me (me_noted T) (pv 0) hr (pa_cons (pe_tup (pa_cons pe_str (pa_cons (pe_ix ix_tup (pv 1) pe_int (fun _ _ => rfl)) pa_nil))) pa_nil)))
      (pss_one (ps_ret (pe_me (me_noted T) (pv 0) hr (pa_cons (pe_tup (pa_cons pe_str (pa_cons (pv 2) (pa_cons (pv 3) pa_nil)))) pa_nil))))))), ?_⟩
    have atT : ∀ {j : Nat} {i : Int}, is[j]? = some i → atI (is.map V.int) (j : Int) = some (V.int i) := fun {j i} e => atI_natV (by rw [List.getElem?_map, e]; rfl)
    have big : ∀ {m : Nat}, m < 1000000 → m ≤ sizeLine := fun h => by rw [sizeLine_eq]; omega
    refine ⟨_, rfl, t, _, rfl, .inr (SqT.of ht), rfl, _, rfl, ?_⟩
    rw [List.length_map]
    have hcl : c ≠ l := ne_of hc hl (fun z => nomatch z)
    have htl : t ≠ l := ne_of ht hl (fun z => nomatch z)
    rcases his with e1 | e3
    · rw [e1, decide_eq_true (show V.int ((1 : Nat) : Int) = V.int 1 from rfl)]
      obtain ⟨i, ei⟩ : ∃ i, is[0]? = some i := ⟨_, List.getElem?_eq_getElem (by omega)⟩
      exact iteT ⟨_, rfl, t, _, _, _, rfl, rfl, SqT.of ht, atT (j := 0) ei, k H i xs (Ex.refl _ _) hl (Nat.le_add_right _ _)⟩
    · rw [e3, decide_eq_false (show ¬ V.int ((3 : Nat) : Int) = V.int 1 from fun z => by cases z)]
      refine iteF ?_
      obtain ⟨i0, ei0⟩ : ∃ i, is[0]? = some i := ⟨_, List.getElem?_eq_getElem (by omega)⟩
      obtain ⟨i1, ei1⟩ : ∃ i, is[1]? = some i := ⟨_, List.getElem?_eq_getElem (by omega)⟩
      obtain ⟨i2, ei2⟩ : ∃ i, is[2]? = some i := ⟨_, List.getElem?_eq_getElem (by omega)⟩
      -- ahead
      refine ⟨_, rfl, c, dx, _, rfl, hc, rfl, ⟨_, rfl, t, _, _, _, rfl, rfl, SqT.of ht, atT (j := 0) ei0, _, rfl, t, _, _, _, rfl, rfl, SqT.of ht, atT (j := 1) ei1, (by show 3 ≤ sizeLine; decide), fun p hp => ?_⟩⟩
      have s1 : Same H (upd H p (.tup [.str "behind", .int i0, .int i1])) := same_upd hp
      refine ⟨c, l, st, dx, n, _, xs, rfl, s1 _ _ hc, s1 _ _ hl, by omega, ?_⟩
      have x1 : Ex [l] H (upd (upd H p (.tup [.str "behind", .int i0, .int i1])) l (.lst (xs ++ [.ref p]))) := (Ex.of s1).trans Ex.one
      generalize hH1 : upd (upd H p (.tup [.str "behind", .int i0, .int i1])) l (.lst (xs ++ [.ref p])) = H1 at x1
      have l1 : H1 l = some (.lst (xs ++ [.ref p])) := by rw [← hH1]; exact upd_same
      have c1 : H1 c = some (.ins (He.ga K "Chain") dx (chainF n l st)) := x1 _ _ hc (by simpa using hcl)
      have t1 : H1 t = some (.tup (is.map V.int)) := x1 _ _ ht (by simpa using htl)
      -- last
      refine ⟨_, rfl, c, dx, _, rfl, c1, rfl, ⟨_, rfl, t, _, _, _, rfl, rfl, SqT.of t1, atT (j := 2) ei2, (by show 2 ≤ sizeLine; decide), fun p2 hp2 => ?_⟩⟩
      have s2 : Same H1 (upd H1 p2 (.tup [.str "back", .int i2])) := same_upd hp2
      refine ⟨c, l, st, dx, n, _, xs ++ [.ref p], rfl, s2 _ _ c1, s2 _ _ l1, by rw [List.length_append, List.length_singleton]; omega, ?_⟩
      have x2 : Ex [l] H1 (upd (upd H1 p2 (.tup [.str "back", .int i2])) l (.lst (xs ++ [.ref p] ++ [.ref p2]))) := (Ex.of s2).trans Ex.one
      generalize hH2 : upd (upd H1 p2 (.tup [.str "back", .int i2])) l (.lst (xs ++ [.ref p] ++ [.ref p2])) = H2 at x2
      have l2 : H2 l = some (.lst (xs ++ [.ref p] ++ [.ref p2])) := by rw [← hH2]; exact upd_same
      have c2 : H2 c = some (.ins (He.ga K "Chain") dx (chainF n l st)) := x2 _ _ c1 (by simpa using hcl)
      -- the last line
      refine ⟨_, rfl, c, dx, _, rfl, c2, rfl, ⟨_, rfl, _, rfl, (by show 3 ≤ sizeLine; decide), fun p3 hp3 => ?_⟩⟩
      have s3 : Same H2 (upd H2 p3 (.tup [.str "behind", .int (xs.length : Int), .int ((xs ++ [V.ref p]).length : Int)])) := same_upd hp3
      refine ⟨c, l, st, dx, n, _, xs ++ [.ref p] ++ [.ref p2], rfl, s3 _ _ c2, s3 _ _ l2, by simp only [List.length_append, List.length_singleton]; omega, ?_⟩
      exact k _ _ _ ((x1.trans x2).trans ((Ex.of s3).trans Ex.one)) upd_same (by simp only [List.length_append, List.length_singleton]; omega)
/-! ### rest -/
def spRest (K : PySem.W.Frag) : Sp := fun vs H Q _ => ∃ (n : Nat) (A : CA) (S : List (Stp n)) (B : Nat) (a : Addr) (start : Nat) (x : Pn n), vs = [.ref A.c, .ref a, .int (start : Int)] ∧ ChAt K H A S B ∧ PermAt H a x.1 ∧ start ≤ n ∧ n ≤ 60 ∧
  ∀ H' t a', Same H H' → H' t = some (.tup [.int ((rst (S.drop start) start x).1 : Nat), .ref a']) → PermAt H' a' (rst (S.drop start) start x).2.1 → Q (.ref t) H'
theorem scRest : FnScope ["self", "one", "start", "step", "to"] ["self", "one", "start"] (defScope sChainRest) := ⟨rfl, rfl, rfl, by decide +kernel, rfl, by decide +kernel, by decide +kernel⟩
theorem me_rest (T : Tx K mg) : Me P w K mg base 2 (He.ga K "Chain") "rest" ["self", "one", "start"] (spRest K) := by
  obtain ⟨fd, F⟩ := T.d_ChainRest
  refine ⟨fd, _, T.c_Chain, T.m_Chain_rest, F.bindsN fun _ _ _ _ _ _ us hl => match us, hl with | [_, _, _], _ => rfl, F.ok scRest (fun vs H Q E h => ?_) (fun cdv A0 outer s H vs Q E hr h => ?_)⟩
  · obtain ⟨n, A, S, B, a, start, x, rfl, _⟩ := h
    rfl
  · obtain ⟨n, A, S, B, a, start, x, rfl, hA, ha, hst, hn, k⟩ := h
    have hu := hu_of hr
    refine ⟨_, PSs.nox (pss_cons (ps_for PassesOwn.never rfl (pi_list (pe_slice sl_list (pe_fld (pv 0) rfl) (po_some (pv 2)) po_none)) (pg_name (i := 3) scRest.nd rfl (Or.inl rfl))
        (pss_cons (ps_set (i := 4) scRest.nd rfl (Or.inl rfl) (pe_ix ix_tup (pv 1) (pe_fld (pv 3) rfl) (fun _ _ => rfl)))
        (pss_cons (ps_if (pt_cmp (pc_dnotin hu (pv 4) (pe_fld (pv 3) rfl))) (pss_one (ps_ret (pe_tup (pa_cons (pe_fld (pv 3) rfl) (pa_cons (pv 1) pa_nil))))) pss_nil)
        (pss_one (ps_if (pt_cmpR op_ne (pv 4) (pe_fld (pv 3) rfl) (nomark _))
          (pss_one (ps_set (i := 1) scRest.nd rfl (Or.inl rfl) (pe_fn (fn_behind T) hr rfl (pa_cons (pv 1) (pa_cons (pe_fn (fn_back T) hr rfl (pa_cons (pe_ix ix_tup (pe_dget hu (pe_fld (pv 3) rfl) (pv 4) (fun _ _ => rfl)) pe_int (fun _ _ => rfl)) pa_nil)) pa_nil))))) pss_nil)))))
      (pss_one (ps_ret (pe_tup (pa_cons (pe_fld (pv 0) rfl) (pa_cons (pv 1) pa_nil)))))), ?_⟩
    obtain ⟨dc, hc⟩ := hA.ob
    refine ⟨_, rfl, A.c, _, dc, _, _, rfl, hc, T.c_Chain, T.n_Chain_steps, chainF_steps _ _ _, _, rfl, (start : Int), rfl, A.steps, _, rfl, SqL.of hA.sl, fun D hD => ?_⟩
    have hcut : cutV (A.st.map fun z => V.ref z.1) (some (start : Int)) none = (A.st.drop start).map fun z => V.ref z.1 := by
      rw [cut_from (by rw [List.length_map, hA.len]; exact hst), List.map_drop]
    rw [hcut]
    have s1 : Same H (upd H D (.lst ((A.st.drop start).map fun z => V.ref z.1))) := same_upd hD
    refine ⟨D, rfl, ⟨_, SqL.of upd_same⟩, for_list (K := K) (a := D) (xs := (A.st.drop start).map fun z => V.ref z.1)
      (fun i σ H2 => ∃ (y : Pn n) (b : Addr) (v3 v4 : Option V), σ = [some (.ref A.c), some (.ref b), some (.int (start : Int)), v3, v4] ∧ Same H H2 ∧ H2 D = some (.lst ((A.st.drop start).map fun z => V.ref z.1)) ∧ PermAt H2 b y.1 ∧
        rst (S.drop start) start x = rst (S.drop (start + i)) (start + i) y)
      ⟨x, a, none, none, rfl, s1, upd_same, s1 _ _ ha, rfl⟩ (fun i σ H2 _ ⟨_, _, _, _, _, _, e, _⟩ => SqL.of e) ?_ ?_⟩
    · rintro i v σ H2 hi ⟨y, b, v3, v4, rfl, sm, hDl, hb, er⟩
      obtain ⟨⟨sx, d, m⟩, hz, rfl⟩ := map_get hi
      rw [List.getElem?_drop] at hz
      have hlt : start + i < n := by rw [← hA.len]; exact (List.getElem?_eq_some_iff.mp hz).1
      have hltS : start + i < S.length := by rw [hA.lenS]; exact hlt
      obtain ⟨st, hS⟩ : ∃ st, S[start + i]? = some st := ⟨_, List.getElem?_eq_getElem hltS⟩
      obtain ⟨dx, hsx⟩ := ((hA.st _ _ _ _ hz).same sm).ob
      obtain ⟨kvs, hd, hrel⟩ := (hA.lf _ _ _ _ _ hz hS).same sm
      have hyl : start + i < y.1.length := by rw [y.2.len]; exact hlt
      -- to = one[step.place]
      refine ⟨_, rfl, _, rfl, sx, _, dx, _, _, rfl, hsx, T.c_Step, T.n_Step_place, stepF_place _ _ _, b, _, _, nV (app y (start + i)), rfl, rfl, SqT.of hb, atI_natV (by rw [List.getElem?_map, ap_get hyl]; rfl), ?_⟩
      -- if to not in step.lifts
      refine ⟨_, rfl, _, rfl, sx, _, dx, _, _, rfl, hsx, T.c_Step, T.n_Step_lifts, stepF_lifts _ _ _, d, _, rfl, DGet.k (k := Sum.inl (app y (start + i) : Int)) hd, _, rfl, ?_⟩
      have e0 : rst (S.drop (start + i)) (start + i) y = (match st.lifts.lookup (app y (start + i)) with
          | none => (start + i, y)
          | some u => rst (S.drop (start + i + 1)) (start + i + 1) (if app y (start + i) = start + i then y else y * u.inv)) := by
        rw [drop_at hS]
        rfl
      cases hlk : st.lifts.lookup (app y (start + i)) with
      | none =>
        rw [hrel.none_ hlk]
        rw [hlk] at e0
        refine iteT ⟨_, rfl, sx, _, dx, _, _, rfl, hsx, T.c_Step, T.n_Step_place, stepF_place _ _ _, _, rfl, (by show 2 ≤ sizeLine; decide), fun t ht => ?_⟩
        have s3 := sm.trans (same_upd (o := .tup [.int ((start + i : Nat) : Int), .ref b]) ht)
        refine k _ t b s3 ?_ ?_
        · rw [er, e0]
          exact upd_same
        · rw [er, e0]
          exact same_upd ht _ _ hb
      | some u =>
        obtain ⟨t, ht, tu, tl, htt, htu⟩ := hrel.some_ hlk
        rw [ht]
        rw [hlk] at e0
        replace e0 : rst (S.drop (start + i)) (start + i) y = rst (S.drop (start + i + 1)) (start + i + 1) (if app y (start + i) = start + i then y else y * u.inv) := e0
        refine iteF ?_
        -- if to != step.place
        refine ⟨_, rfl, _, rfl, sx, _, dx, _, _, rfl, hsx, T.c_Step, T.n_Step_place, stepF_place _ _ _, rfl, _, rfl, ?_⟩
        by_cases q : app y (start + i) = start + i
        · rw [decide_eq_true (show nV (app y (start + i)) = V.int ((start + i : Nat) : Int) by rw [q]; rfl)]
          rw [if_pos q] at e0
          exact iteF ⟨y, b, _, _, rfl, sm, hDl, hb, by rw [er, e0]; rfl⟩
        · rw [decide_eq_false (show ¬ nV (app y (start + i)) = V.int ((start + i : Nat) : Int) from fun z => q (by injection z with z; omega))]
          rw [if_neg q] at e0
          refine iteT ⟨_, rfl, _, rfl, sx, _, dx, _, _, rfl, hsx, T.c_Step, T.n_Step_lifts, stepF_lifts _ _ _, _, rfl, d, .ref t, rfl, ?_, t, _, _, .ref tu, rfl, rfl, SqT.of htt, rfl, ?_⟩
          · have g := DGet.k (k := Sum.inl (app y (start + i) : Int)) hd
            rw [ht] at g
            exact g
          refine ⟨n, tu, u.1, rfl, htu, u.2, hn, fun c1 H3 s3 hc1 => ?_⟩
          refine ⟨n, b, c1, y.1, u.inv.1, rfl, s3 _ _ hb, hc1, by rw [y.2.len]; exact hn, u.inv.2.len, y.2.mem_lt, fun c2 H4 s4 hc2 => ?_⟩
          exact ⟨y * u.inv, c2, _, _, rfl, (sm.trans s3).trans s4, s4 _ _ (s3 _ _ hDl), hc2, by rw [er, e0]; rfl⟩
    · rintro σ H2 ⟨y, b, v3, v4, rfl, sm, hDl, hb, er⟩
      have el : start + ((A.st.drop start).map fun z => V.ref z.1).length = n := by
        rw [List.length_map, List.length_drop, hA.len]
        omega
      have en : S.drop n = [] := List.drop_eq_nil_of_le (by rw [hA.lenS]; exact Nat.le_refl _)
      rw [el, en] at er
      refine ⟨_, rfl, A.c, _, dc, _, _, rfl, sm _ _ hc, T.c_Chain, T.n_Chain_many, chainF_many _ _ _, _, rfl, (by show 2 ≤ sizeLine; decide), fun t ht => ?_⟩
      refine k _ t b (sm.trans (same_upd ht)) ?_ ?_
      · rw [er]
        exact upd_same
      · rw [er]
        exact same_upd ht _ _ hb
/-! ### has -/
def spChHas (K : PySem.W.Frag) : Sp := fun vs H Q _ => ∃ (n : Nat) (A : CA) (S : List (Stp n)) (B : Nat) (a : Addr) (x : Pn n), vs = [.ref A.c, .ref a] ∧ ChAt K H A S B ∧ PermAt H a x.1 ∧ n ≤ 60 ∧
  ∀ H', Same H H' → Q (.bl (decide ((rst S 0 x).1 = n))) H'
theorem scChHas : FnScope ["self", "one"] ["self", "one"] (defScope sChainHas) := ⟨rfl, rfl, rfl, by decide +kernel, rfl, by decide +kernel, by decide +kernel⟩
theorem me_chas (T : Tx K mg) : Me P w K mg base 3 (He.ga K "Chain") "has" ["self", "one"] (spChHas K) := by
  obtain ⟨fd, F⟩ := T.d_ChainHas
  refine ⟨fd, _, T.c_Chain, T.m_Chain_has, F.bindsN fun _ _ _ _ _ _ us hl => match us, hl with | [_, _], _ => rfl, F.ok scChHas (fun vs H Q E h => ?_) (fun cdv A0 outer s H vs Q E hr h => ?_)⟩
  · obtain ⟨n, A, S, B, a, x, rfl, _⟩ := h
    rfl
  · obtain ⟨n, A, S, B, a, x, rfl, hA, ha, hn, k⟩ := h
    refine ⟨_, PSs.nox (pss_one (ps_ret (pe_cmpR op_eq (pe_ix ix_tup (pe_me (me_rest T) (pv 0) hr (pa_cons (pv 1) (pa_cons pe_int pa_nil))) pe_int (fun _ _ => rfl)) (pe_fld (pv 0) rfl) (nomark _)))), ?_⟩
    obtain ⟨dc, hc⟩ := hA.ob
    refine ⟨_, rfl, A.c, dc, _, rfl, hc, rfl, _, rfl, n, A, S, B, a, 0, x, rfl, hA, ha, Nat.zero_le _, hn, fun H' t a' sm ht _ => ?_⟩
    refine ⟨t, _, _, .int ((rst (S.drop 0) 0 x).1 : Nat), rfl, rfl, SqT.of ht, rfl, _, rfl, A.c, _, dc, _, _, rfl, sm _ _ hc, T.c_Chain, T.n_Chain_many, chainF_many _ _ _, rfl, ?_⟩
    show Q (.bl (decide (V.int ((rst (S.drop 0) 0 x).1 : Nat) = V.int (n : Int)))) _
    have e : decide (V.int ((rst (S.drop 0) 0 x).1 : Nat) = V.int (n : Int)) = decide ((rst S 0 x).1 = n) := by
      rw [List.drop_zero]
      exact decide_eq_decide.mpr ⟨fun z => by injection z with z; omega, fun z => by rw [z]⟩
    rw [e]
    exact k _ sm
end
end K43
/-! W5: Chain.__init__. -/
namespace K43
open PySem PySem.Spec PyProof.Rows L2
section
variable {P : Program} {w : World} {K : PySem.W.Frag} {mg : Str → Option Value} {base : Heap}
def spChain (K : PySem.W.Frag) : Sp := fun vs H Q _ => ∃ (x dx : Addr) (n : Nat), vs = [.ref x, .int (n : Int)] ∧ n ≤ 60 ∧ H x = some (.ins (He.ga K "Chain") dx []) ∧
  ∀ H' A, A.c = x → (∀ b o, H b = some o → b ≠ x → H' b = some o) → ChAt K H' A (S0 n) 1 → (∀ b, b ∈ A.mut → H b = none) → Q .non H'
theorem scChain : FnScope ["self", "many", "place"] ["self", "many"] (defScope sChainInit) := ⟨rfl, rfl, rfl, by decide +kernel, rfl, by decide +kernel, by decide +kernel⟩
structure ChInv (K : PySem.W.Frag) (n : Nat) (D : Addr) (H3 : Hp) (i : Nat) (st : List (Addr × Addr × Addr)) (H2 : Hp) : Prop where
  len : st.length = i
  sm : Same H3 H2
  lst : H2 D = some (.lst (st.map fun z => .ref z.1))
  st_ : ∀ (s : Nat) (x d m : Addr), st[s]? = some (x, d, m) → StAt K H2 s x d m
  lf : ∀ (s : Nat) (x d m : Addr), st[s]? = some (x, d, m) → LiftsAt H2 d [(s, Pn.one n)] ∧ H3 d = none
  mks : ∀ (s : Nat) (x d m : Addr), st[s]? = some (x, d, m) → H2 m = some (.lst []) ∧ H3 m = none ∧ m ≠ D
  ndd : (st.map (·.2.1)).Nodup
  ndm : (st.map (·.2.2)).Nodup
theorem nodup_snoc {α : Type} {l : List α} {x : α} (h : l.Nodup) (hx : x ∉ l) : (l ++ [x]).Nodup := by
  refine List.nodup_append.mpr ⟨h, by simp, ?_⟩
  intro a ha b hb e
  rw [e, List.mem_singleton.mp hb] at ha
  exact hx ha
theorem get_snoc {α : Type} {l : List α} {x y : α} {s : Nat} (h : (l ++ [x])[s]? = some y) : l[s]? = some y ∨ (s = l.length ∧ y = x) := by
  by_cases hs : s < l.length
  · rw [List.getElem?_append_left hs] at h
    exact .inl h
  · rw [List.getElem?_append_right (by omega)] at h
    have h1 := (List.getElem?_eq_some_iff.mp h).1
    rw [List.length_singleton] at h1
    have e : s = l.length := by omega
    subst e
    rw [Nat.sub_self] at h
    exact .inr ⟨rfl, (Option.some.inj h).symm⟩
theorem mc_chain (T : Tx K mg) : Mc P w K mg base 4 "Chain" ["self", "many"] [] (spChain K) := by
  obtain ⟨fd, F⟩ := T.d_ChainInit
  refine ⟨fd, _, [], T.g_Chain, T.k_Chain, .nil, F.bindsN fun _ _ _ _ _ _ us hl => match us, hl with | [_, _], _ => rfl, F.ok scChain (fun vs H Q E h => ?_) (fun cdv A0 outer s H vs Q E hr h => ?_)⟩
  · obtain ⟨x, dx, n, rfl, _⟩ := h
    rfl
  · obtain ⟨x, dx, n, rfl, hn, hx, k⟩ := h
    refine ⟨_, PSs.nox (pss_cons (ps_fld (pv 0) (pv 1) rfl) (pss_cons (ps_fld (pv 0) (pe_lst (pa_cons (pe_tup (pa_cons pe_str pa_nil)) pa_nil)) rfl)
      (pss_one (ps_fld (pv 0) (pe_lc (own := [("place", 2)]) (g := gName 2) (tt := tYes) (te := tMake (He.ga K "Step") (spStep K) [] E0 (tCons (tVar 2) (tCons (tVar 1) tNil))) rfl scChain.nd
        (pi_range1 rfl T.f_range (pa_cons (pv 1) pa_nil)) (blkOk_by (own := [("place", 2)]) (N := ["self", "many", "place"]) (sc := defScope sChainInit) (by decide +kernel))
        (fun _ _ _ _ _ => pg_name (i := 2) scChain.nd rfl (Or.inl rfl)) (fun _ _ _ _ _ => pts_nil)
        (fun _ _ _ _ _ => pe_mc (mc_step T) hr rfl (pa_cons (pv 2) (pa_cons (pv 1) pa_nil)))) rfl)))), ?_⟩
    refine ⟨_, rfl, _, rfl, x, _, dx, [], rfl, hx, T.c_Chain, T.n_Chain_many, (by show 0 < 1000; decide), ?_⟩
    -- self.lines = [("still",)]
    refine ⟨(by show 1 ≤ sizeLine; decide), fun t ht => ⟨(by show 1 ≤ sizeLine; decide), fun l hl => ?_⟩⟩
    have hxt : x ≠ t := ne_of_none upd_same ht
    have hxl : x ≠ l := ne_of_none (by rw [upd_ne hxt]; exact upd_same) hl
    refine ⟨_, rfl, x, _, dx, _, rfl, (by rw [upd_ne hxl, upd_ne hxt]; exact upd_same), T.c_Chain, T.n_Chain_lines, (by show 1 < 1000; decide), ?_⟩
    -- the heap ahead of the comprehension
    have x3 : (upd (upd (upd (upd H x (.ins (He.ga K "Chain") dx (putF "many" (.int (n : Int)) []))) t (.tup [.str "still"])) l (.lst [.ref t])) x (.ins (He.ga K "Chain") dx (putF "lines" (.ref l) (putF "many" (.int (n : Int)) [])))) x = some (.ins (He.ga K "Chain") dx [("many", .int (n : Int)), ("lines", .ref l)]) := upd_same
    have l3 : (upd (upd (upd (upd H x (.ins (He.ga K "Chain") dx (putF "many" (.int (n : Int)) []))) t (.tup [.str "still"])) l (.lst [.ref t])) x (.ins (He.ga K "Chain") dx (putF "lines" (.ref l) (putF "many" (.int (n : Int)) [])))) l = some (.lst [.ref t]) := by
      rw [upd_ne (Ne.symm hxl)]
      exact upd_same
    have nl : H l = none := by
      have q := hl
      by_cases e : l = t
      · subst e
        rw [upd_same] at q
        cases q
      · rw [upd_ne e, upd_ne (Ne.symm hxl)] at q
        exact q
    have sm3 : ∀ b o, H b = some o → b ≠ x → (upd (upd (upd (upd H x (.ins (He.ga K "Chain") dx (putF "many" (.int (n : Int)) []))) t (.tup [.str "still"])) l (.lst [.ref t])) x (.ins (He.ga K "Chain") dx (putF "lines" (.ref l) (putF "many" (.int (n : Int)) [])))) b = some o := fun b o e hb => by
      have hbt : b ≠ t := ne_of_none (by rw [upd_ne hb]; exact e) ht
      rw [upd_ne hb, upd_ne (ne_of_none e nl), upd_ne hbt, upd_ne hb]
      exact e
    generalize (upd (upd (upd (upd H x (.ins (He.ga K "Chain") dx (putF "many" (.int (n : Int)) []))) t (.tup [.str "still"])) l (.lst [.ref t])) x (.ins (He.ga K "Chain") dx (putF "lines" (.ref l) (putF "many" (.int (n : Int)) [])))) = H3 at x3 l3 sm3
    have free3 : ∀ {a : Addr}, H3 a = none → H a = none := fun {a} q => by
      by_cases e : a = x
      · subst e
        rw [x3] at q
        cases q
      · cases z : H a with
        | none => rfl
        | some o =>
          rw [sm3 a o z e] at q
          cases q
    refine ⟨_, rfl, (n : Int), rfl, by omega, by omega, fun D hD => lc_range (lo := 0) (n := ((n : Int)).toNat) (fun i H2 => ∃ st, ChInv K n D H3 i st H2) ⟨[], rfl, same_upd hD, upd_same, fun s x d m e => absurd e (by simp), fun s x d m e => absurd e (by simp), fun s x d m e => absurd e (by simp), .nil, .nil⟩ ?_ ?_⟩
    · rintro i H2 hi ⟨st, I⟩
      rw [Int.toNat_natCast] at hi
      refine ⟨rfl, _, rfl, _, rfl, fun y dy ny ndy nyd => ?_⟩
      refine ⟨y, dy, n, i, by rw [Int.zero_add]; rfl, hn, upd_same, fun H4 d m t' sk hst hd ht' hm hdn hmn => ⟨rfl, ?_⟩⟩
      have s24 : Same H2 H4 := Same.made ny ndy sk
      have hD4 : H4 D = some (.lst (st.map fun z => .ref z.1)) := s24 _ _ I.lst
      have old_none : ∀ {a : Addr}, (upd (upd H2 dy (.own y)) y (.ins (He.ga K "Step") dy [])) a = none → H2 a = none := fun {a} q => by
        by_cases e1 : a = y
        · rw [e1, upd_same] at q; cases q
        · rw [upd_ne e1] at q
          by_cases e2 : a = dy
          · rw [e2, upd_same] at q; cases q
          · rw [upd_ne e2] at q
            exact q
      have d2 : H2 d = none := old_none hdn
      have m2 : H2 m = none := old_none hmn
      have mD : m ≠ D := fun e => by rw [e, I.lst] at m2; cases m2
      have dD : d ≠ D := fun e => by rw [e, I.lst] at d2; cases d2
      have stay : ∀ b o, H4 b = some o → b ≠ D → (upd H4 D (.lst ((st.map fun z => V.ref z.1) ++ [.ref y]))) b = some o := fun b o e hb => by rw [upd_ne hb]; exact e
      have tupD : Tups H4 (upd H4 D (.lst ((st.map fun z => V.ref z.1) ++ [.ref y]))) := Tups.upd hD4 fun _ z => by cases z
      refine ⟨_, hD4, ?_, st ++ [(y, d, m)], ?_⟩
      · rw [List.length_map, I.len, sizeLine_eq]
        omega
      refine ⟨by rw [List.length_append, List.length_singleton, I.len], fun b o e => ?_, ?_, fun s x' d' m' e => ?_, fun s x' d' m' e => ?_, fun s x' d' m' e => ?_, ?_, ?_⟩
      · exact stay b o (s24 _ _ (I.sm _ _ e)) (ne_of_none e hD)
      · rw [upd_same, List.map_append]
        rfl
      · rcases get_snoc e with e | ⟨rfl, e1⟩
        · obtain ⟨dx', hx'⟩ := (I.st_ s x' d' m' e).ob
          have h4 := s24 _ _ hx'
          exact ⟨dx', stay _ _ h4 (ne_of h4 hD4 fun z => nomatch z)⟩
        · cases e1
          obtain ⟨dx', hx'⟩ := hst.ob
          exact ⟨dx', by rw [I.len]; exact stay _ _ hx' (ne_of hx' hD4 fun z => nomatch z)⟩
      · rcases get_snoc e with e | ⟨rfl, e1⟩
        · obtain ⟨⟨kvs, h1, h2⟩, h3⟩ := I.lf s x' d' m' e
          have h4 := s24 _ _ h1
          exact ⟨⟨kvs, stay _ _ h4 (ne_of h4 hD4 fun z => nomatch z), h2.tups ((Tups.same s24).trans tupD)⟩, h3⟩
        · cases e1
          refine ⟨⟨_, stay _ _ hd dD, ?_⟩, I.sm.free d2⟩
          rw [I.len]
          exact .cons ⟨rfl, t', rfl, ht'.tups tupD⟩ .nil
      · rcases get_snoc e with e | ⟨rfl, e1⟩
        · obtain ⟨h1, h2, h3⟩ := I.mks s x' d' m' e
          exact ⟨stay _ _ (s24 _ _ h1) h3, h2, h3⟩
        · cases e1
          exact ⟨stay _ _ hm mD, I.sm.free m2, mD⟩
      · rw [List.map_append]
        refine nodup_snoc I.ndd fun hmem => ?_
        obtain ⟨⟨x', d', m'⟩, hz, e⟩ := List.mem_map.mp hmem
        obtain ⟨j, hj⟩ := List.mem_iff_getElem?.mp hz
        obtain ⟨⟨kvs, h1, _⟩, _⟩ := I.lf j x' d' m' hj
        have e : d' = d := e
        rw [e, d2] at h1
        cases h1
      · rw [List.map_append]
        refine nodup_snoc I.ndm fun hmem => ?_
        obtain ⟨⟨x', d', m'⟩, hz, e⟩ := List.mem_map.mp hmem
        obtain ⟨j, hj⟩ := List.mem_iff_getElem?.mp hz
        obtain ⟨h1, _⟩ := I.mks j x' d' m' hj
        have e : m' = m := e
        rw [e, m2] at h1
        cases h1
    · rintro H2 ⟨st, I⟩
      have len := I.len
      rw [Int.toNat_natCast] at len
      have hx2 := I.sm _ _ x3
      refine ⟨_, rfl, x, _, dx, _, rfl, hx2, T.c_Chain, T.n_Chain_steps, (by show 2 < 1000; decide), ?_⟩
      have stay : ∀ b o, H2 b = some o → b ≠ x → (upd H2 x (.ins (He.ga K "Chain") dx (putF "steps" (.ref D) [("many", .int (n : Int)), ("lines", .ref l)]))) b = some o := fun b o e hb => by rw [upd_ne hb]; exact e
      have tupx : Tups H2 (upd H2 x (.ins (He.ga K "Chain") dx (putF "steps" (.ref D) [("many", .int (n : Int)), ("lines", .ref l)]))) := Tups.upd hx2 fun _ z => by cases z
      refine k _ ⟨x, l, D, st⟩ rfl (fun b o e hb => stay _ _ (I.sm _ _ (sm3 _ _ e hb)) hb) ⟨⟨dx, upd_same⟩, ⟨_, stay _ _ (I.sm _ _ l3) (Ne.symm hxl), Nat.le_refl 1⟩, ?_, len, ?_, fun s x' d' m' e => ?_, fun s x' d' m' z e ez => ?_, fun s x' d' m' z e ez => ?_, I.ndd, ?_⟩ fun b hb => ?_
      · exact stay _ _ I.lst (ne_of I.lst hx2 fun z => nomatch z)
      · unfold S0
        rw [List.length_map, List.length_range]
      · obtain ⟨dx', hx'⟩ := (I.st_ s x' d' m' e).ob
        exact ⟨dx', stay _ _ hx' (ne_of hx' hx2 fun z => by injection z with z1 z2 z3; exact absurd (congrArg List.length z3) (by show ¬ (3 : Nat) = 2; decide))⟩
      · obtain ⟨rfl, _⟩ := S0_at ez
        obtain ⟨⟨kvs, h1, h2⟩, _⟩ := I.lf s x' d' m' e
        exact ⟨kvs, stay _ _ h1 (ne_of h1 hx2 fun z => nomatch z), h2.tups tupx⟩
      · obtain ⟨rfl, _⟩ := S0_at ez
        obtain ⟨h1, _⟩ := I.mks s x' d' m' e
        exact ⟨[], stay _ _ h1 (ne_of h1 hx2 fun z => nomatch z), .nil⟩
      · refine List.nodup_cons.mpr ⟨fun hmem => ?_, List.nodup_cons.mpr ⟨fun hmem => ?_, I.ndm⟩⟩
        · rcases List.mem_cons.mp hmem with e | hmem
          · have e : D = l := e
            rw [e, l3] at hD
            cases hD
          · obtain ⟨⟨x', d', m'⟩, hz, e⟩ := List.mem_map.mp hmem
            obtain ⟨j, hj⟩ := List.mem_iff_getElem?.mp hz
            exact (I.mks j x' d' m' hj).2.2 e
        obtain ⟨⟨x', d', m'⟩, hz, e⟩ := List.mem_map.mp hmem
        obtain ⟨j, hj⟩ := List.mem_iff_getElem?.mp hz
        have q := (I.mks j x' d' m' hj).2.1
        have e : m' = l := e
        rw [e, l3] at q
        cases q
      · rcases List.mem_cons.mp hb with rfl | hb
        · exact nl
        · rcases List.mem_append.mp hb with hb | hb
          · obtain ⟨⟨x', d', m'⟩, hz, rfl⟩ := List.mem_map.mp hb
            obtain ⟨j, hj⟩ := List.mem_iff_getElem?.mp hz
            exact free3 (I.lf j x' d' m' hj).2
          · obtain ⟨⟨x', d', m'⟩, hz, rfl⟩ := List.mem_map.mp hb
            obtain ⟨j, hj⟩ := List.mem_iff_getElem?.mp hz
            exact free3 (I.mks j x' d' m' hj).2.1
end
end K43
/-! D1: rows of places as data, their ==. -/
namespace K43
open PySem PySem.Spec PyProof.Rows L2
def dN (k : Nat) : PyData := .int (k : Int)
def tnat (p : List Nat) : PyData := .tuple (p.map dN)
theorem eqvAll_nat : ∀ (p q : List Nat), PyData.eqvAll (p.map dN) (q.map dN) = decide (p = q)
  | [], [] => rfl
  | [], y :: q => rfl
  | x :: p, [] => rfl
  | x :: p, y :: q => by
    rw [List.map_cons, List.map_cons]
    show (((x : Int) == (y : Int)) && PyData.eqvAll (p.map dN) (q.map dN)) = _
    rw [eqvAll_nat p q]
    by_cases e : x = y
    · subst e
      simp
    · have e2 : ((x : Int) == (y : Int)) = false := beq_eq_false_iff_ne.mpr (by omega)
      rw [e2]
      simp [e]
theorem eqv_tnat (p q : List Nat) : PyData.eqv (tnat p) (tnat q) = decide (p = q) := by
  show PyData.eqvAll _ _ = _
  exact eqvAll_nat p q
theorem canLayAll_nat : ∀ p : List Nat, PyData.canLayAll0 (p.map dN) = true
  | [] => rfl
  | x :: p => by
    show ((dN x).canLay0 && PyData.canLayAll0 (p.map dN)) = true
    rw [canLayAll_nat p]
    rfl
theorem depthAll_nat : ∀ p : List Nat, PyData.depthAll (p.map dN) ≤ 1
  | [] => by decide
  | x :: p => by
    show max (dN x).depth (PyData.depthAll (p.map dN)) ≤ 1
    have := depthAll_nat p
    have h : (dN x).depth = 0 := by simp [dN, PyData.depth]
    omega
theorem shaped_tnat (p : List Nat) : SeqAt.shaped (tnat p) = true := by
  unfold SeqAt.shaped
  refine Bool.and_eq_true_iff.mpr ⟨canLayAll_nat p, decide_eq_true ?_⟩
  have := depthAll_nat p
  show PyData.depthAll (p.map dN) + 1 ≤ 64
  omega
theorem dpAll_nat {K : PySem.W.Frag} {H : Hp} : ∀ p : List Nat, DpAll K H (p.map nV) (p.map dN)
  | [] => .nil
  | x :: p => .cons (.int x) (dpAll_nat p)
theorem dp_perm {K : PySem.W.Frag} {H : Hp} {a : Addr} {p : List Nat} (h : PermAt H a p) : Dp K H (.ref a) (tnat p) := .tup (SqT.of h) (dpAll_nat p)
end K43
/-! W6: Chain.grown. -/
namespace K43
open PySem PySem.Spec PyProof.Rows L2
theorem paired_get {α β : Type} {F : α → β → Prop} : ∀ {l₁ : List α} {l₂ : List β} {i : Nat} {b : β}, Paired F l₁ l₂ → l₂[i]? = some b → ∃ a, l₁[i]? = some a ∧ F a b
  | _, _, _, _, .nil, h => by simp at h
  | _, _, 0, _, .cons f _, h => ⟨_, rfl, by
    have e := Option.some.inj h
    rw [← e]
    exact f⟩
  | _, _, i + 1, _, .cons _ r, h => by
    obtain ⟨a, e, f⟩ := paired_get (i := i) r (by simpa using h)
    exact ⟨a, by simpa using e, f⟩
theorem paired_get' {α β : Type} {F : α → β → Prop} : ∀ {l₁ : List α} {l₂ : List β} {i : Nat} {a : α}, Paired F l₁ l₂ → l₁[i]? = some a → ∃ b, l₂[i]? = some b ∧ F a b
  | _, _, _, _, .nil, h => by simp at h
  | _, _, 0, _, .cons f _, h => ⟨_, rfl, by
    have e := Option.some.inj h
    rw [← e]
    exact f⟩
  | _, _, i + 1, _, .cons _ r, h => by
    obtain ⟨a, e, f⟩ := paired_get' (i := i) r (by simpa using h)
    exact ⟨a, by simpa using e, f⟩
theorem paired_append {α β : Type} {F : α → β → Prop} : ∀ {l₁ l₁' : List α} {l₂ l₂' : List β}, Paired F l₁ l₂ → Paired F l₁' l₂' → Paired F (l₁ ++ l₁') (l₂ ++ l₂')
  | _, _, _, _, .nil, h => h
  | _, _, _, _, .cons f r, h => .cons f (paired_append r h)
theorem putK_new {kvs : List (Key × V)} {k : Key} {v : V} (h : valV kvs k = none) : putK kvs k v = kvs ++ [(k, v)] := by
  unfold putK
  have e : (kvs.any fun kv => decide (kv.1 = k)) = false := by
    unfold valV at h
    rw [Option.map_eq_none_iff, List.find?_eq_none] at h
    exact List.any_eq_false.mpr h
  rw [e]
  rfl
def PRel (H : Hp) (xs : List V) (ps : List (Nat × Nat)) : Prop := Paired (fun (v : V) (p : Nat × Nat) => ∃ t, v = .ref t ∧ H t = some (.tup [nV p.1, nV p.2])) xs ps
theorem PRel.tups {H H' : Hp} {xs : List V} {ps : List (Nat × Nat)} (h : PRel H xs ps) (s : Tups H H') : PRel H' xs ps := Paired.mapP h fun _ _ ⟨t, a, b⟩ => ⟨t, a, s _ _ b⟩
section
variable {n : Nat}
def TkRel (H : Hp) (tks : List V) (T : List (Nat × Pn n)) : Prop := Paired (fun (v : V) (e : Nat × Pn n) => ∃ (t p q : Addr) (is : List Int), v = .ref t ∧ H t = some (.tup [.int (e.1 : Int), .ref p, .ref q]) ∧ PermAt H p e.2.1 ∧
  H q = some (.tup (is.map V.int)) ∧ (is.length = 1 ∨ is.length = 3)) tks T
theorem TkRel.tups {H H' : Hp} {xs : List V} {T : List (Nat × Pn n)} (h : TkRel H xs T) (s : Tups H H') : TkRel H' xs T := Paired.mapP h fun _ _ ⟨t, p, q, is, a, b, c, d, e⟩ => ⟨t, p, q, is, a, s _ _ b, s _ _ c, s _ _ d, e⟩
theorem LiftsAt.tups {H H' : Hp} {d : Addr} {L : List (Nat × Pn n)} (h : LiftsAt H d L) (e : ∀ o, H d = some o → H' d = some o) (s : Tups H H') : LiftsAt H' d L := let ⟨kvs, a, b⟩ := h; ⟨kvs, e _ a, b.tups s⟩
theorem MkAt.tups {H H' : Hp} {d : Addr} {L : List (Pn n)} (h : MkAt H d L) (e : ∀ o, H d = some o → H' d = some o) (s : Tups H H') : MkAt H' d L := let ⟨kvs, a, b⟩ := h; ⟨kvs, e _ a, b.tups s⟩
structure GAt (A : CA) (s : Nat) (d m pl tl : Addr) (B : Nat) (H0 : Hp) (r : List (Stp n)) (L0 : List (Nat × Pn n)) (M : List (Pn n)) (L : List (Nat × Pn n)) (ps : List (Nat × Nat)) (at_ : Nat) (ts : List (Pn n)) (H2 : Hp) : Prop where
  inv : GInv r s L0 M L ps at_ ts
  ex : Ex [A.lines, d, m] H0 H2
  lf : LiftsAt H2 d L
  mk_ : MkAt H2 m M
  ln : ∃ ys, H2 A.lines = some (.lst ys) ∧ ys.length + L0.length ≤ B + L.length
  pl_ : ∃ xs, H2 pl = some (.lst xs) ∧ PRel H2 xs ps
  tl_ : ∃ xs, H2 tl = some (.lst xs) ∧ TkRel H2 xs (ts.map fun g => (s + 1, g))
theorem GAt.same {A : CA} {s : Nat} {d m pl tl : Addr} {B : Nat} {H0 : Hp} {r : List (Stp n)} {L0 : List (Nat × Pn n)} {M : List (Pn n)} {L : List (Nat × Pn n)} {ps : List (Nat × Nat)} {at_ : Nat} {ts : List (Pn n)} {H2 H3 : Hp}
    (G : GAt A s d m pl tl B H0 r L0 M L ps at_ ts H2) (e : Same H2 H3) : GAt A s d m pl tl B H0 r L0 M L ps at_ ts H3 where
  inv := G.inv
  ex := fun b o q h => e _ _ (G.ex b o q h)
  lf := G.lf.same e
  mk_ := G.mk_.same e
  ln := let ⟨ys, a, b⟩ := G.ln; ⟨ys, e _ _ a, b⟩
  pl_ := let ⟨ys, a, b⟩ := G.pl_; ⟨ys, e _ _ a, b.tups (.same e)⟩
  tl_ := let ⟨ys, a, b⟩ := G.tl_; ⟨ys, e _ _ a, b.tups (.same e)⟩
theorem lifts_le {s : Nat} {L0 L : List (Nat × Pn n)} {M0 : List (Pn n)} (h : StpOk s ⟨L0, M0⟩) (mono : ∀ k u, L0.lookup k = some u → L.lookup k = some u) : L0.length ≤ L.length := by
  have q := List.Nodup.length_le_of_subset h.nd (l₂ := L.map (·.1)) fun k hk => by
    obtain ⟨u, e⟩ := key_lk hk
    exact lk_key (mono k u e)
  rw [List.length_map, List.length_map] at q
  exact q
end
section
variable {P : Program} {w : World} {K : PySem.W.Frag} {mg : Str → Option Value} {base : Heap}
def spGrown (K : PySem.W.Frag) : Sp := fun vs H Q _ => ∃ (n : Nat) (A : CA) (S : List (Stp n)) (B s : Nat) (sx d m a : Addr) (l : Int) (x : Pn n) (st : Stp n),
  vs = [.ref A.c, .ref sx, .ref a, .int l] ∧ ChAt K H A S B ∧ A.st[s]? = some (sx, d, m) ∧ S[s]? = some st ∧ PermAt H a x.1 ∧ n ≤ 60 ∧ s < n ∧ B ≤ 500000 ∧ st.makers.length ≤ 30 ∧ StpOk s st ∧ Fxs s x ∧
  (∀ k u mm, st.lifts.lookup k = some u → mm ∈ st.makers → ∃ u', st.lifts.lookup (app mm k) = some u' ∧ Gen (mkOf (S.drop (s + 1))) (u * mm * u'.inv)) ∧
  ∀ H' t L ts tks, Ex A.mut H H' → ChAt K H' A (S.set s ⟨L, st.makers ++ [x]⟩) (B + L.length - st.lifts.length) → GEnd (S.drop (s + 1)) s st.lifts (st.makers ++ [x]) L ts → H t = none → H' t = some (.lst tks) →
    TkRel H' tks (ts.map fun g => (s + 1, g)) → L.length ≤ n → Q (.ref t) H'
abbrev grownN : List Str := ["self", "step", "one", "line", "pairs", "tasks", "at", "to", "number", "lift", "lift_line", "maker", "maker_line", "made", "goal", "last", "last_line", "k"]
theorem scGrown : FnScope ["self", "step", "one", "line", "pairs", "tasks", "at", "to", "number", "lift", "lift_line", "maker", "maker_line", "made", "goal", "last", "last_line", "k"] ["self", "step", "one", "line"] (defScope sChainGrown) :=
  ⟨rfl, rfl, rfl, by decide +kernel, rfl, by decide +kernel, by decide +kernel⟩
theorem me_grown (T : Tx K mg) : Me P w K mg base 2 (He.ga K "Chain") "grown" ["self", "step", "one", "line"] (spGrown K) := by
  obtain ⟨fd, F⟩ := T.d_ChainGrown
  refine ⟨fd, _, T.c_Chain, T.m_Chain_grown, F.bindsN fun _ _ _ _ _ _ us hl => match us, hl with | [_, _, _, _], _ => rfl, F.ok scGrown (fun vs H Q E h => ?_) (fun cdv A0 outer s0 H vs Q E hr h => ?_)⟩
  · obtain ⟨n, A, S, B, s, sx, d, m, a, l, x, st, rfl, _⟩ := h
    rfl
  · obtain ⟨n, A, S, B, s, sx, d, m, a, l, x, st, rfl, hA, hz, hS, ha, hn, hsn, hB, hM, ok, fx, cp, k⟩ := h
    have hu := hu_of hr
    refine ⟨_, PSs.nox (
      pss_cons (ps_expr (pe_bm PySem.F.plainAttrs_list PySem.F.slot_list_append PySem.F.type_list_append mt_append (pe_fld (pv 1) rfl) (pa_cons (pe_tup (pa_cons (pv 2) (pa_cons (pv 3) pa_nil))) pa_nil))) <|
      pss_cons (ps_lock (ps_setLc (i := 4) (own := [("to", 7)]) (g := gName 7) (tt := tYes) (te := tTup (tCons (tVar 7) (tCons (tOp (rI0 fun i j => .int (i - j)) (tCB (fun xs H Q => ∃ p ys, xs = [.ref p] ∧ (SqL K H p ys ∨ SqT K H p ys) ∧ Q (.int ys.length) H) (tCons (tFld K (tVar 1) "makers") tNil)) (tC (.int 1))) tNil)))
          rfl scGrown.nd rfl rfl (sw_true rfl rfl rfl (by decide +kernel)) (pi_keys (pe_fld (pv 1) rfl)) (blkOk_by (own := [("to", 7)]) (N := grownN) (sc := defScope sChainGrown) (by decide +kernel))
          (fun _ _ _ _ _ => pg_name (i := 7) scGrown.nd rfl (Or.inl rfl)) (fun _ _ _ _ _ => pts_nil)
          (fun _ _ _ _ _ => pe_tup (pa_cons (pv 7) (pa_cons (pe_op op_sub (pe_callB call_len_seq rfl T.f_len boot_len (pa_cons (pe_fld (pv 1) rfl) pa_nil)) pe_int) pa_nil))))) <|
      pss_cons (ps_set (i := 5) scGrown.nd rfl (Or.inl rfl) (pe_lst pa_nil)) <|
      pss_cons (ps_set (i := 6) scGrown.nd rfl (Or.inl rfl) pe_int) <|
      pss_cons (ps_while PassesOwn.never (pt_cmpR op_lt (pv 6) (pe_callB call_len_seq rfl T.f_len boot_len (pa_cons (pv 4) pa_nil)) (nomark _)) (
        pss_cons (ps_asg (pe_ix ix_list (pv 4) (pv 6) (fun _ _ => rfl)) (pg_tup rfl (pgs_cons (pg_name (i := 7) scGrown.nd rfl (Or.inl rfl)) (pgs_cons (pg_name (i := 8) scGrown.nd rfl (Or.inl rfl)) pgs_nil)))) <|
        pss_cons (ps_aug (i := 6) scGrown.nd rfl (Or.inl rfl) pe_int ip_add) <|
        pss_cons (ps_asg (pe_dget hu (pe_fld (pv 1) rfl) (pv 7) (fun _ _ => rfl)) (pg_tup rfl (pgs_cons (pg_name (i := 9) scGrown.nd rfl (Or.inl rfl)) (pgs_cons (pg_name (i := 10) scGrown.nd rfl (Or.inl rfl)) pgs_nil)))) <|
        pss_cons (ps_asg (pe_ix ix_list (pe_fld (pv 1) rfl) (pv 8) (fun _ _ => rfl)) (pg_tup rfl (pgs_cons (pg_name (i := 11) scGrown.nd rfl (Or.inl rfl)) (pgs_cons (pg_name (i := 12) scGrown.nd rfl (Or.inl rfl)) pgs_nil)))) <|
        pss_cons (ps_set (i := 13) scGrown.nd rfl (Or.inl rfl) (pe_fn (fn_behind T) hr rfl (pa_cons (pv 9) (pa_cons (pv 11) pa_nil)))) <|
        pss_cons (ps_set (i := 14) scGrown.nd rfl (Or.inr rfl) (pe_ix ix_tup (pv 11) (pv 7) (fun _ _ => rfl))) <|
        pss_one (ps_if (pt_cmp (pc_dnotin hu (pv 14) (pe_fld (pv 1) rfl)))
          (pss_cons (ps_dput hu (pe_fld (pv 1) rfl) (pv 14) (pe_tup (pa_cons (pv 13) (pa_cons (pe_me (me_noted T) (pv 0) hr (pa_cons (pe_tup (pa_cons pe_str (pa_cons (pv 10) (pa_cons (pv 12) pa_nil)))) pa_nil)) pa_nil))) rfl) <|
           pss_one (ps_expr (pe_bm PySem.F.plainAttrs_list PySem.F.slot_list_extend PySem.F.type_list_extend mt_extend (pv 4) (pa_cons
            (pe_lc (own := [("k", 17)]) (g := gName 17) (tt := tYes) (te := tTup (tCons (tVar 14) (tCons (tVar 17) tNil))) rfl scGrown.nd
              (pi_range1 rfl T.f_range (pa_cons (pe_callB call_len_seq rfl T.f_len boot_len (pa_cons (pe_fld (pv 1) rfl) pa_nil)) pa_nil))
              (blkOk_by (own := [("k", 17)]) (N := grownN) (sc := defScope sChainGrown) (by decide +kernel))
              (fun _ _ _ _ _ => pg_name (i := 17) scGrown.nd rfl (Or.inl rfl)) (fun _ _ _ _ _ => pts_nil) (fun _ _ _ _ _ => pe_tup (pa_cons (pv 14) (pa_cons (pv 17) pa_nil)))) pa_nil))))
          (pss_one (ps_if (pt_cmpR (op_neD hr.units) (pv 13) (pe_ix ix_tup (pe_dget hu (pe_fld (pv 1) rfl) (pv 14) (fun _ _ => rfl)) pe_int (fun _ _ => rfl)) (nomark _))
            (pss_cons (ps_asg (pe_dget hu (pe_fld (pv 1) rfl) (pv 14) (fun _ _ => rfl)) (pg_tup rfl (pgs_cons (pg_name (i := 15) scGrown.nd rfl (Or.inl rfl)) (pgs_cons (pg_name (i := 16) scGrown.nd rfl (Or.inl rfl)) pgs_nil)))) <|
             pss_one (ps_expr (pe_bm PySem.F.plainAttrs_list PySem.F.slot_list_append PySem.F.type_list_append mt_append (pv 5) (pa_cons
              (pe_tup (pa_cons (pe_op op_add (pe_fld (pv 1) rfl) pe_int) (pa_cons (pe_fn (fn_behind T) hr rfl (pa_cons (pv 13) (pa_cons (pe_fn (fn_back T) hr rfl (pa_cons (pv 15) pa_nil)) pa_nil))) (pa_cons (pe_tup (pa_cons (pv 10) (pa_cons (pv 12) (pa_cons (pv 16) pa_nil)))) pa_nil)))) pa_nil))))
            pss_nil))))) <|
      pss_one (ps_ret (pv 5))), ?_⟩
    -- what stands at the entry
    obtain ⟨dc, hc⟩ := hA.ob
    obtain ⟨dx, hsx⟩ := (hA.st _ _ _ _ hz).ob
    obtain ⟨kvs0, hd, hkv⟩ := hA.lf _ _ _ _ _ hz hS
    obtain ⟨xs0, hm, hmr⟩ := hA.mks _ _ _ _ _ hz hS
    obtain ⟨ys0, hl, hyl⟩ := hA.ln
    have hml : xs0.length = st.makers.length := Paired.length hmr
    have sizeB : ∀ {j : Nat}, j < 16000000 → j < sizeLine := fun h => by rw [sizeLine_eq]; omega
    have ml : m ≠ A.lines := fun e => by
      have q := (List.nodup_cons.mp hA.ndm).2
      rw [List.nodup_cons] at q
      exact q.1 (List.mem_map.mpr ⟨_, List.mem_of_getElem? hz, e⟩)
    have dm : d ≠ m := ne_of hd hm fun z => nomatch z
    have dl : d ≠ A.lines := ne_of hd hl fun z => nomatch z
    have cd : A.c ≠ d := ne_of hc hd fun z => nomatch z
    have cm : A.c ≠ m := ne_of hc hm fun z => nomatch z
    have cl : A.c ≠ A.lines := ne_of hc hl fun z => nomatch z
    have xd : sx ≠ d := ne_of hsx hd fun z => nomatch z
    have xm : sx ≠ m := ne_of hsx hm fun z => nomatch z
    have xl : sx ≠ A.lines := ne_of hsx hl fun z => nomatch z
    -- step.makers.append((one, line))
    refine ⟨_, rfl, sx, _, dx, _, _, rfl, hsx, T.c_Step, T.n_Step_makers, stepF_makers _ _ _, .inl ⟨rfl, _, SqL.of hm⟩, _, rfl, _, rfl, (by show 2 ≤ sizeLine; decide), fun t1 ht1 => ?_⟩
    have s1 : Same H (upd H t1 (.tup [.ref a, .int l])) := same_upd ht1
    refine ⟨m, xs0, .ref t1, rfl, rfl, s1 _ _ hm, sizeB (by omega), ?_⟩
    have ex1 : Ex [A.lines, d, m] H (upd (upd H t1 (.tup [.ref a, .int l])) m (.lst (xs0 ++ [.ref t1]))) := (Ex.of s1).trans (Ex.upd (by simp))
    have tu1 : Tups H (upd (upd H t1 (.tup [.ref a, .int l])) m (.lst (xs0 ++ [.ref t1]))) := (Tups.same s1).trans (Tups.upd (s1 _ _ hm) fun _ z => by cases z)
    have hd1 : (upd (upd H t1 (.tup [.ref a, .int l])) m (.lst (xs0 ++ [.ref t1]))) d = some (.dK kvs0) := by rw [upd_ne dm]; exact s1 _ _ hd
    have hl1 : (upd (upd H t1 (.tup [.ref a, .int l])) m (.lst (xs0 ++ [.ref t1]))) A.lines = some (.lst ys0) := by rw [upd_ne (Ne.symm ml)]; exact s1 _ _ hl
    have hm1 : (upd (upd H t1 (.tup [.ref a, .int l])) m (.lst (xs0 ++ [.ref t1]))) m = some (.lst (xs0 ++ [.ref t1])) := upd_same
    have ht11 : Lp (upd (upd H t1 (.tup [.ref a, .int l])) m (.lst (xs0 ++ [.ref t1]))) t1 x.1 := by
      have e1 : t1 ≠ m := fun e => by rw [e, hm] at ht1; cases ht1
      refine ⟨a, l, by rw [upd_ne e1]; exact upd_same, tu1 _ _ ha⟩
    have free1 : ∀ {b : Addr}, (upd (upd H t1 (.tup [.ref a, .int l])) m (.lst (xs0 ++ [.ref t1]))) b = none → H b = none := fun {b} q => by
      by_cases e : b = m
      · rw [e, upd_same] at q; cases q
      · rw [upd_ne e] at q
        exact s1.free q
    generalize (upd (upd H t1 (.tup [.ref a, .int l])) m (.lst (xs0 ++ [.ref t1]))) = H1 at ex1 tu1 hd1 hl1 hm1 ht11 free1
    have mr1 : MRel H1 (xs0 ++ [.ref t1]) (st.makers ++ [x]) := paired_append (hmr.tups tu1) (.cons ⟨t1, rfl, ht11⟩ .nil)
    have hsx1 : H1 sx = some (.ins (He.ga K "Step") dx (stepF s d m)) := ex1 _ _ hsx (by simp [xd, xm, xl])
    have hc1 : H1 A.c = some (.ins (He.ga K "Chain") dc (chainF n A.lines A.steps)) := ex1 _ _ hc (by simp [cd, cm, cl])
    -- pairs = [(to, len(step.makers) - 1) for to in step.lifts]
    refine ⟨d, .dK kvs0, hd1, True.intro, fun od => ?_⟩
    have x1f : (upd H1 d (.frz od (.dK kvs0))) sx = some (.ins (He.ga K "Step") dx (stepF s d m)) := by rw [upd_ne xd]; exact hsx1
    have m1f : (upd H1 d (.frz od (.dK kvs0))) m = some (.lst (xs0 ++ [.ref t1])) := by rw [upd_ne (Ne.symm dm)]; exact hm1
    refine ⟨_, rfl, sx, _, dx, _, _, rfl, x1f, T.c_Step, T.n_Step_lifts, stepF_lifts _ _ _, d, od, rfl, .inl ⟨kvs0, upd_same, fun pl hpl => lc_it (walk_keys (d := d) (o := od) (kvs := kvs0))
      (fun i H2 => ∃ xs, Same (upd H1 d (.frz od (.dK kvs0))) H2 ∧ H2 pl = some (.lst xs) ∧ PRel H2 xs ((st.lifts.take i).map fun e => (e.1, st.makers.length)))
      ⟨[], same_upd hpl, upd_same, .nil⟩ (fun i H2 _ ⟨_, e, _⟩ => e _ _ upd_same) ?_ ?_⟩⟩
    · rintro i v Hz H2 hi ⟨xs, sm, hx, pr⟩ ⟨rfl, kk, vv, hkk, rfl⟩
      obtain ⟨e, he, ek, _⟩ := paired_get' hkv hkk
      have ek : kk = Sum.inl (e.1 : Int) := ek
      subst ek
      refine ⟨rfl, _, rfl, _, rfl, sx, _, dx, _, _, rfl, sm _ _ x1f, T.c_Step, T.n_Step_makers, stepF_makers _ _ _, m, _, rfl, .inl (SqL.of (sm _ _ m1f)), _, _, rfl, rfl, (by show 2 ≤ sizeLine; decide), fun t2 ht2 => ?_⟩
      have e1 : (((xs0 ++ [V.ref t1]).length : Nat) : Int) - 1 = (st.makers.length : Int) := by
        rw [List.length_append, List.length_singleton, hml]
        omega
      have plt : pl ≠ t2 := ne_of_none hx ht2
      have hxl : xs.length = i := by
        have q := Paired.length pr
        rw [List.length_map, List.length_take] at q
        have : i < st.lifts.length := (List.getElem?_eq_some_iff.mp he).1
        omega
      refine ⟨xs, by rw [upd_ne plt]; exact hx, ?_, xs ++ [.ref t2], fun b o eb => ?_, upd_same, ?_⟩
      · have : i < st.lifts.length := (List.getElem?_eq_some_iff.mp he).1
        have := ok.few hsn
        exact sizeB (by omega)
      · have hb := sm _ _ eb
        rw [upd_ne (ne_of_none eb hpl), upd_ne (ne_of_none hb ht2)]
        exact hb
      · have tt : Tups (upd H2 t2 (.tup [kV (Sum.inl (e.1 : Int)), V.int ((((xs0 ++ [V.ref t1]).length : Nat) : Int) - 1)])) (upd (upd H2 t2 (.tup [kV (Sum.inl (e.1 : Int)), V.int ((((xs0 ++ [V.ref t1]).length : Nat) : Int) - 1)])) pl (.lst (xs ++ [.ref t2]))) :=
          Tups.upd (u := .lst xs) (by rw [upd_ne plt]; exact hx) fun _ z => by cases z
        rw [List.take_add_one, he]
        rw [List.map_append]
        refine paired_append (pr.tups ((Tups.same (same_upd ht2)).trans tt)) (.cons ⟨t2, rfl, tt _ _ ?_⟩ .nil)
        rw [upd_same, e1]
        rfl
    · rintro H2 ⟨xs1, sm, hx, pr⟩
      refine ⟨sm _ _ upd_same, ?_⟩
      rw [List.take_of_length_le (by rw [Paired.length hkv]; exact Nat.le_refl _)] at pr
      have npl : H pl = none := free1 (by
        by_cases e : pl = d
        · rw [e, upd_same] at hpl; cases hpl
        · rw [upd_ne e] at hpl
          exact hpl)
      have pld : pl ≠ d := ne_of hx (sm _ _ upd_same) fun z => nomatch z
      have s13 : Same H1 (upd H2 d (.dK kvs0)) := fun b o e => by
        by_cases q : b = d
        · rw [q, upd_same, ← hd1, ← q]
          exact e
        · rw [upd_ne q]
          exact sm _ _ (by rw [upd_ne q]; exact e)
      have tu3 : Tups H2 (upd H2 d (.dK kvs0)) := Tups.upd (sm _ _ upd_same) fun _ z => by cases z
      have hx3 : (upd H2 d (.dK kvs0)) pl = some (.lst xs1) := by rw [upd_ne pld]; exact hx
      have pr3 := pr.tups tu3
      generalize (upd H2 d (.dK kvs0)) = H3 at s13 hx3 pr3
      -- tasks = []; at = 0
      refine ⟨Nat.zero_le _, fun tl htl => ?_⟩
      have ntl : H tl = none := free1 (s13.free htl)
      have hplt : pl ≠ tl := ne_of_none hx3 htl
      have s34 : Same H3 (upd H3 tl (.lst [])) := same_upd htl
      have s14 := s13.trans s34
      have G0 : GAt A s d m pl tl B H (S.drop (s + 1)) st.lifts (st.makers ++ [x]) st.lifts (st.lifts.map fun e => (e.1, st.makers.length)) 0 [] (upd H3 tl (.lst [])) :=
        ⟨GInv.start ok fx cp, fun b o e hb => s14 _ _ (ex1 b o e hb), ⟨kvs0, s14 _ _ hd1, hkv.tups (tu1.trans (.same s14))⟩, ⟨_, s14 _ _ hm1, mr1.tups (.same s14)⟩, ⟨ys0, s14 _ _ hl1, by omega⟩,
          ⟨xs1, s34 _ _ hx3, pr3.tups (.same s34)⟩, ⟨[], upd_same, .nil⟩⟩
      have hML : (st.makers ++ [x]).length = st.makers.length + 1 := by rw [List.length_append, List.length_singleton]
      let Wd : Nat → L2.St → Hp → Prop := fun μ σ H2 => ∃ (L : List (Nat × Pn n)) (ps : List (Nat × Nat)) (at_ : Nat) (ts : List (Pn n)) (v7 v8 v9 v10 v11 v12 v13 v14 v15 v16 v17 : Option V),
        σ = [some (.ref A.c), some (.ref sx), some (.ref a), some (.int l), some (.ref pl), some (.ref tl), some (.int (at_ : Int)), v7, v8, v9, v10, v11, v12, v13, v14, v15, v16, v17] ∧
        GAt A s d m pl tl B H (S.drop (s + 1)) st.lifts (st.makers ++ [x]) L ps at_ ts H2 ∧ μ = (n - L.length) * (st.makers ++ [x]).length + (ps.length - at_)
      refine ⟨Wd, ⟨_, st.lifts, _, 0, [], _, _, _, _, _, _, _, _, _, _, _, rfl, G0, rfl⟩, ?_⟩
      rintro μ σ H4 ⟨L, ps, at_, ts, v7, v8, v9, v10, v11, v12, v13, v14, v15, v16, v17, rfl, G, rfl⟩
      obtain ⟨xsp, hp4, prp⟩ := G.pl_
      have hpl4 : xsp.length = ps.length := Paired.length prp
      have I := G.inv
      have hLn : L.length ≤ n := I.ok.few hsn
      refine ⟨_, rfl, _, rfl, pl, _, rfl, .inl (SqL.of hp4), _, _, rfl, rfl, _, rfl, ?_⟩
      rw [hpl4]
      refine ite2 (fun hlt => ?_) (fun hge => ?_)
      · have hlt : at_ < ps.length := by
          have q := of_decide_eq_true hlt
          omega
        refine ⟨fun σ' H' => ∃ μ', μ' < (n - L.length) * (st.makers ++ [x]).length + (ps.length - at_) ∧ Wd μ' σ' H', fun σ' H' h => h, ?_⟩
        obtain ⟨⟨k0, j0⟩, hps⟩ : ∃ p, ps[at_]? = some p := ⟨_, List.getElem?_eq_getElem hlt⟩
        obtain ⟨v0, hv0, t0, rfl, ht0⟩ := paired_get prp hps
        obtain ⟨⟨u, hu0⟩, hj0⟩ := I.pv _ (List.mem_of_getElem? hps)
        have hu0 : L.lookup k0 = some u := hu0
        have hj0 : j0 < (st.makers ++ [x]).length := hj0
        obtain ⟨mm, hmm⟩ : ∃ mm, (st.makers ++ [x])[j0]? = some mm := ⟨_, List.getElem?_eq_getElem hj0⟩
        obtain ⟨kvs, hd4, hkv4⟩ := G.lf
        obtain ⟨xsm, hm4, hmr4⟩ := G.mk_
        obtain ⟨ys, hl4, hyl4⟩ := G.ln
        have hc4 : H4 A.c = some (.ins (He.ga K "Chain") dc (chainF n A.lines A.steps)) := G.ex _ _ hc (by simp [cd, cm, cl])
        have hsx4 : H4 sx = some (.ins (He.ga K "Step") dx (stepF s d m)) := G.ex _ _ hsx (by simp [xd, xm, xl])
        obtain ⟨t1', ht1', p1, l1, htt1, hpp1⟩ := hkv4.some_ hu0
        obtain ⟨v2, hv2, t2, rfl, p2, l2, htt2, hpp2⟩ := paired_get hmr4 hmm
        have hk0 : k0 < n := I.ok.lt hsn hu0
        -- to, number = pairs[at]; at += 1
        refine ⟨_, rfl, _, rfl, pl, _, _, .ref t0, rfl, rfl, SqL.of hp4, atI_natV hv0, t0, _, rfl, SqT.of ht0, rfl, _, _, rfl, _, _, rfl, rfl, _, rfl, _, _, rfl, rfl, ?_⟩
        -- lift, lift_line = step.lifts[to]
        have g0 : DGet H4 d (nV k0) (some (.ref t1')) := by
          have g := DGet.k (k := Sum.inl (k0 : Int)) hd4
          rw [ht1'] at g
          exact g
        refine ⟨_, rfl, sx, _, dx, _, _, rfl, hsx4, T.c_Step, T.n_Step_lifts, stepF_lifts _ _ _, _, rfl, d, .ref t1', rfl, g0, t1', _, rfl, SqT.of htt1, rfl, _, _, rfl, _, _, rfl, rfl, ?_⟩
        -- maker, maker_line = step.makers[number]
        refine ⟨_, rfl, sx, _, dx, _, _, rfl, hsx4, T.c_Step, T.n_Step_makers, stepF_makers _ _ _, _, rfl, m, _, _, .ref t2, rfl, rfl, SqL.of hm4, atI_natV hv2, t2, _, rfl, SqT.of htt2, rfl, _, _, rfl, _, _, rfl, rfl, ?_⟩
        -- made = behind(lift, maker)
        refine ⟨_, rfl, _, rfl, n, p1, p2, u.1, mm.1, rfl, hpp1, hpp2, by rw [u.2.len]; exact hn, mm.2.len, u.2.mem_lt, fun c3 H5 s5 hc3 => ?_⟩
        have G5 := G.same s5
        -- goal = maker[to]
        have hgo : (mm.1.map nV)[k0]? = some (nV (app mm k0)) := by rw [List.getElem?_map, ap_get (by rw [mm.2.len]; exact hk0)]; rfl
        refine ⟨_, rfl, _, rfl, p2, _, _, nV (app mm k0), rfl, rfl, SqT.of (s5 _ _ hpp2), atI_natV hgo, ?_⟩
        have hd5 := s5 _ _ hd4
        have hsx5 := s5 _ _ hsx4
        have hc5 := s5 _ _ hc4
        have hm5 := s5 _ _ hm4
        have hl5 := s5 _ _ hl4
        have hp5 := s5 _ _ hp4
        have hkv5 := hkv4.tups (.same s5)
        refine ⟨_, rfl, _, rfl, sx, _, dx, _, _, rfl, hsx5, T.c_Step, T.n_Step_lifts, stepF_lifts _ _ _, d, _, rfl, DGet.k (k := Sum.inl (app mm k0 : Int)) hd5, _, rfl, ?_⟩
        cases hlk : L.lookup (app mm k0) with
        | none =>
          have hnone := hkv5.none_ hlk
          rw [hnone]
          refine iteT ?_
          -- step.lifts[goal] = (made, self.noted(("behind", lift_line, maker_line)))
          refine ⟨_, rfl, _, rfl, A.c, dc, _, rfl, hc5, rfl, _, rfl, _, rfl, (by show 3 ≤ sizeLine; decide), fun t4 ht4 => ?_⟩
          have s56 : Same H5 (upd H5 t4 (.tup [.str "behind", .int l1, .int l2])) := same_upd ht4
          refine ⟨A.c, A.lines, A.steps, dc, n, _, ys, rfl, s56 _ _ hc5, s56 _ _ hl5, by omega, ?_⟩
          have npl_l : pl ≠ A.lines := fun e => by rw [e, hl] at npl; cases npl
          have npl_m : pl ≠ m := fun e => by rw [e, hm] at npl; cases npl
          have npl_d : pl ≠ d := fun e => by rw [e, hd] at npl; cases npl
          have ntl_l : tl ≠ A.lines := fun e => by rw [e, hl] at ntl; cases ntl
          have ntl_m : tl ≠ m := fun e => by rw [e, hm] at ntl; cases ntl
          have ntl_d : tl ≠ d := fun e => by rw [e, hd] at ntl; cases ntl
          obtain ⟨tks, htl5, htk5⟩ := G5.tl_
          obtain ⟨xsp', hp5', prp5⟩ := G5.pl_
          have exsp : xsp' = xsp := by rw [hp5] at hp5'; cases hp5'; rfl
          subst exsp
          have ex7 : Ex [A.lines] H5 (upd (upd H5 t4 (.tup [.str "behind", .int l1, .int l2])) A.lines (.lst (ys ++ [.ref t4]))) := (Ex.of s56).trans Ex.one
          have tu7 : Tups H5 (upd (upd H5 t4 (.tup [.str "behind", .int l1, .int l2])) A.lines (.lst (ys ++ [.ref t4]))) := (Tups.same s56).trans (Tups.upd (s56 _ _ hl5) fun _ z => by cases z)
          have hl7 : (upd (upd H5 t4 (.tup [.str "behind", .int l1, .int l2])) A.lines (.lst (ys ++ [.ref t4]))) A.lines = some (.lst (ys ++ [.ref t4])) := upd_same
          generalize (upd (upd H5 t4 (.tup [.str "behind", .int l1, .int l2])) A.lines (.lst (ys ++ [.ref t4]))) = H7 at ex7 tu7 hl7
          refine ⟨(by show 2 ≤ sizeLine; decide), fun t5 ht5 => ?_⟩
          have s78 : Same H7 (upd H7 t5 (.tup [.ref c3, .int (ys.length : Int)])) := same_upd ht5
          have ht58 : Lp (upd H7 t5 (.tup [.ref c3, .int (ys.length : Int)])) t5 (u * mm).1 := ⟨c3, _, upd_same, s78 _ _ (tu7 _ _ hc3)⟩
          generalize (upd H7 t5 (.tup [.ref c3, .int (ys.length : Int)])) = H8 at s78 ht58
          have hd8 : H8 d = some (.dK kvs) := s78 _ _ (ex7 _ _ hd5 (by simpa using dl))
          have hsx8 := s78 _ _ (ex7 _ _ hsx5 (by simpa using xl))
          refine ⟨_, rfl, sx, _, dx, _, _, rfl, hsx8, T.c_Step, T.n_Step_lifts, stepF_lifts _ _ _, _, rfl, d, _, rfl, DPut.k (k := Sum.inl (app mm k0 : Int)) hd8 (sizeB (by have := Paired.length hkv5; omega)), ?_⟩
          rw [putK_new hnone]
          have hd9 : (upd H8 d (.dK (kvs ++ [(Sum.inl (app mm k0 : Int), .ref t5)]))) d = some (.dK (kvs ++ [(Sum.inl (app mm k0 : Int), .ref t5)])) := upd_same
          have ex9 : Ex [A.lines, d] H5 (upd H8 d (.dK (kvs ++ [(Sum.inl (app mm k0 : Int), .ref t5)]))) := ((ex7.mono (by simp)).trans (Ex.of s78)).trans (Ex.upd (by simp))
          have tu89 : Tups H8 (upd H8 d (.dK (kvs ++ [(Sum.inl (app mm k0 : Int), .ref t5)]))) := Tups.upd hd8 fun _ z => by cases z
          have hl9 : (upd H8 d (.dK (kvs ++ [(Sum.inl (app mm k0 : Int), .ref t5)]))) A.lines = some (.lst (ys ++ [.ref t4])) := by rw [upd_ne (Ne.symm dl)]; exact s78 _ _ hl7
          generalize (upd H8 d (.dK (kvs ++ [(Sum.inl (app mm k0 : Int), .ref t5)]))) = H9 at hd9 ex9 tu89 hl9
          have tu9 : Tups H5 H9 := (tu7.trans (.same s78)).trans tu89
          have hsx9 := ex9 _ _ hsx5 (by simp [xl, xd])
          have hm9 := ex9 _ _ hm5 (by simp [ml, Ne.symm dm])
          have hp9 := ex9 _ _ hp5 (by simp [npl_l, npl_d])
          have htl9 := ex9 _ _ htl5 (by simp [ntl_l, ntl_d])
          have hxm : xsm.length = (st.makers ++ [x]).length := Paired.length hmr4
          -- pairs.extend([(goal, k) for k in range(len(step.makers))])
          refine ⟨_, rfl, .inl ⟨rfl, _, SqL.of hp9⟩, _, rfl, sx, _, dx, _, _, rfl, hsx9, T.c_Step, T.n_Step_makers, stepF_makers _ _ _, m, _, rfl, .inl (SqL.of hm9), (xsm.length : Int), rfl, by omega, by omega, fun D hD =>
            lc_range (lo := 0) (n := ((xsm.length : Nat) : Int).toNat) (fun i H => ∃ zs, Same H9 H ∧ H D = some (.lst zs) ∧ PRel H zs ((List.range i).map fun i => (app mm k0, i))) ⟨[], same_upd hD, upd_same, .nil⟩ ?_ ?_⟩
          · rintro i H10 hi ⟨zs, sm10, hz10, pr10⟩
            rw [Int.toNat_natCast] at hi
            refine ⟨rfl, _, rfl, _, rfl, (by show 2 ≤ sizeLine; decide), fun t6 ht6 => ?_⟩
            have hDt : D ≠ t6 := ne_of_none hz10 ht6
            have hzl : zs.length = i := by
              have q := Paired.length pr10
              rw [List.length_map, List.length_range] at q
              exact q
            have tt : Tups (upd H10 t6 (.tup [nV (app mm k0), .int (0 + (i : Int))])) (upd (upd H10 t6 (.tup [nV (app mm k0), .int (0 + (i : Int))])) D (.lst (zs ++ [.ref t6]))) :=
              Tups.upd (u := .lst zs) (by rw [upd_ne hDt]; exact hz10) fun _ z => by cases z
            refine ⟨zs, by rw [upd_ne hDt]; exact hz10, sizeB (by omega), zs ++ [.ref t6], fun b o eb => ?_, upd_same, ?_⟩
            · have hb := sm10 _ _ eb
              rw [upd_ne (ne_of_none eb hD), upd_ne (ne_of_none hb ht6)]
              exact hb
            · rw [List.range_succ, List.map_append]
              refine paired_append (pr10.tups ((Tups.same (same_upd ht6)).trans tt)) (.cons ⟨t6, rfl, tt _ _ ?_⟩ .nil)
              rw [upd_same, Int.zero_add]
              rfl
          · rintro H10 ⟨zs, sm10, hz10, pr10⟩
            rw [Int.toNat_natCast] at pr10
            have hzl : zs.length = xsm.length := by
              have q := Paired.length pr10
              rw [List.length_map, List.length_range] at q
              exact q
            have hpsl := I.psl
            have hmul : L.length * (st.makers ++ [x]).length ≤ 60 * 31 := Nat.mul_le_mul (by omega) (by omega)
            refine ⟨pl, D, xsp', zs, rfl, rfl, sm10 _ _ hp9, hz10, by have := sizeB (j := 3000) (by decide); omega, ?_⟩
            have I' := I.new hps hu0 hmm hlk
            have hL' : (L ++ [(app mm k0, u * mm)]).length ≤ n := I'.ok.few hsn
            rw [List.length_append, List.length_singleton] at hL'
            have tup11 : Tups H10 (upd H10 pl (.lst (xsp' ++ zs))) := Tups.upd (sm10 _ _ hp9) fun _ z => by cases z
            have st11 : ∀ b o, H10 b = some o → b ≠ pl → (upd H10 pl (.lst (xsp' ++ zs))) b = some o := fun b o e hb => by rw [upd_ne hb]; exact e
            refine ⟨_, ?_, L ++ [(app mm k0, u * mm)], ps ++ (List.range (st.makers ++ [x]).length).map fun i => (app mm k0, i), at_ + 1, ts, _, _, _, _, _, _, _, _, _, _, _, rfl, ⟨I', fun b o e hb => ?_, ⟨_, st11 _ _ (sm10 _ _ hd9) (Ne.symm npl_d), ?_⟩, ⟨xsm, st11 _ _ (sm10 _ _ hm9) (Ne.symm npl_m), ?_⟩, ⟨_, st11 _ _ (sm10 _ _ hl9) (Ne.symm npl_l), ?_⟩, ⟨_, upd_same, ?_⟩, ⟨tks, st11 _ _ (sm10 _ _ htl9) (Ne.symm hplt), ?_⟩⟩, rfl⟩
            · have eA : (L ++ [(app mm k0, u * mm)]).length = L.length + 1 := by rw [List.length_append, List.length_singleton]
              have eB : (ps ++ (List.range (st.makers ++ [x]).length).map fun i => (app mm k0, i)).length = ps.length + (st.makers ++ [x]).length := by
                rw [List.length_append, List.length_map, List.length_range]
              have e1 : n - L.length = (n - (L.length + 1)) + 1 := by omega
              rw [eA, eB, e1, Nat.succ_mul]
              omega
            · exact st11 _ _ (sm10 _ _ (ex9 _ _ (s5 _ _ (G.ex b o e hb)) (by
                have q : b ≠ A.lines ∧ b ≠ d ∧ b ≠ m := by simpa using hb
                simp [q.1, q.2.1]))) (ne_of_none e npl)
            · exact paired_append (hkv5.tups ((tu9.trans (.same sm10)).trans tup11)) (.cons ⟨rfl, t5, rfl, ht58.tups ((tu89.trans (.same sm10)).trans tup11)⟩ .nil)
            · exact hmr4.tups ((((Tups.same s5).trans tu9).trans (.same sm10)).trans tup11)
            · rw [List.length_append, List.length_singleton, List.length_append, List.length_singleton]
              omega
            · refine paired_append (prp5.tups ((tu9.trans (.same sm10)).trans tup11)) ?_
              rw [← hxm]
              exact pr10.tups tup11
            · exact htk5.tups ((tu9.trans (.same sm10)).trans tup11)
        | some ul =>
          obtain ⟨t3, ht3, p3, l3, htt3, hpp3⟩ := hkv5.some_ hlk
          rw [ht3]
          refine iteF ?_
          have g3 : DGet H5 d (nV (app mm k0)) (some (.ref t3)) := by
            have g := DGet.k (k := Sum.inl (app mm k0 : Int)) hd5
            rw [ht3] at g
            exact g
          -- made != step.lifts[goal][0]
          refine ⟨_, rfl, _, rfl, sx, _, dx, _, _, rfl, hsx5, T.c_Step, T.n_Step_lifts, stepF_lifts _ _ _, _, rfl, d, .ref t3, rfl, g3, t3, _, _, .ref p3, rfl, rfl, SqT.of htt3, rfl, tnat (mulL u.1 mm.1), tnat ul.1, dp_perm hc3, dp_perm hpp3, shaped_tnat _, shaped_tnat _, _, rfl, ?_⟩
          rw [eqv_tnat]
          by_cases ce : u * mm = ul
          · rw [decide_eq_true (show mulL u.1 mm.1 = ul.1 from congrArg Subtype.val ce)]
            refine iteF ⟨_, ?_, L, ps, at_ + 1, ts, _, _, _, _, _, _, _, _, _, _, _, rfl, ⟨I.old hps hu0 hmm hlk (by rw [if_pos ce]), G5.ex, G5.lf, G5.mk_, G5.ln, G5.pl_, G5.tl_⟩, rfl⟩
            omega
          · rw [decide_eq_false (show ¬ mulL u.1 mm.1 = ul.1 from fun z => ce (Subtype.ext z))]
            refine iteT ⟨_, rfl, sx, _, dx, _, _, rfl, hsx5, T.c_Step, T.n_Step_lifts, stepF_lifts _ _ _, _, rfl, d, .ref t3, rfl, g3, t3, _, rfl, SqT.of htt3, rfl, _, _, rfl, _, _, rfl, rfl, ?_⟩
            obtain ⟨tks, htl5, htk5⟩ := G5.tl_
            obtain ⟨xsp', hp5', prp5⟩ := G5.pl_
            refine ⟨_, rfl, .inl ⟨rfl, _, SqL.of htl5⟩, _, rfl, sx, _, dx, _, _, rfl, hsx5, T.c_Step, T.n_Step_place, stepF_place _ _ _, _, _, rfl, rfl, _, rfl, _, rfl, n, p3, ul.1, rfl, hpp3, ul.2, hn, fun c6 H6 s6 hc6 => ?_⟩
            refine ⟨n, c3, c6, (u * mm).1, ul.inv.1, rfl, s6 _ _ hc3, hc6, by rw [(u * mm).2.len]; exact hn, ul.inv.2.len, (u * mm).2.mem_lt, fun c7 H7 s7 hc7 => ?_⟩
            refine ⟨_, rfl, _, rfl, _, rfl, (by show 3 ≤ sizeLine; decide), fun t8 ht8 => ?_⟩
            have s78 : Same H7 (upd H7 t8 (.tup [.int l1, .int l2, .int l3])) := same_upd ht8
            have h8 : (upd H7 t8 (.tup [.int l1, .int l2, .int l3])) t8 = some (.tup [.int l1, .int l2, .int l3]) := upd_same
            generalize (upd H7 t8 (.tup [.int l1, .int l2, .int l3])) = H8 at s78 h8
            refine ⟨(by show 3 ≤ sizeLine; decide), fun t9 ht9 => ?_⟩
            have s89 : Same H8 (upd H8 t9 (.tup [.int ((s : Int) + 1), .ref c7, .ref t8])) := same_upd ht9
            have h9 : (upd H8 t9 (.tup [.int ((s : Int) + 1), .ref c7, .ref t8])) t9 = some (.tup [.int ((s : Int) + 1), .ref c7, .ref t8]) := upd_same
            generalize (upd H8 t9 (.tup [.int ((s : Int) + 1), .ref c7, .ref t8])) = H9 at s89 h9
            have s59 : Same H5 H9 := ((s6.trans s7).trans s78).trans s89
            have htkl : tks.length = ts.length := by
              have q := Paired.length htk5
              rw [List.length_map] at q
              exact q
            have hmul : L.length * (st.makers ++ [x]).length ≤ 60 * 31 := Nat.mul_le_mul (by omega) (by omega)
            have hpsl := I.psl
            have htsl := I.tsl
            refine ⟨tl, tks, .ref t9, rfl, rfl, s59 _ _ htl5, sizeB (by omega), ?_⟩
            have ntl_l : tl ≠ A.lines := fun e => by rw [e, hl] at ntl; cases ntl
            have ntl_m : tl ≠ m := fun e => by rw [e, hm] at ntl; cases ntl
            have ntl_d : tl ≠ d := fun e => by rw [e, hd] at ntl; cases ntl
            have tup10 : Tups H9 (upd H9 tl (.lst (tks ++ [.ref t9]))) := Tups.upd (s59 _ _ htl5) fun _ z => by cases z
            have st10 : ∀ b o, H5 b = some o → b ≠ tl → (upd H9 tl (.lst (tks ++ [.ref t9]))) b = some o := fun b o e hb => by rw [upd_ne hb]; exact s59 _ _ e
            have tt : Tups H5 (upd H9 tl (.lst (tks ++ [.ref t9]))) := (Tups.same s59).trans tup10
            refine ⟨_, ?_, L, ps, at_ + 1, ts ++ [u * mm * ul.inv], _, _, _, _, _, _, _, _, _, _, _, rfl, ⟨I.old hps hu0 hmm hlk (by rw [if_neg ce]), fun b o e hb => ?_, ⟨kvs, st10 _ _ hd5 (Ne.symm ntl_d), hkv5.tups tt⟩, ⟨xsm, st10 _ _ hm5 (Ne.symm ntl_m), hmr4.tups ((Tups.same s5).trans tt)⟩, ⟨ys, st10 _ _ hl5 (Ne.symm ntl_l), hyl4⟩, ⟨xsp', st10 _ _ hp5' hplt, prp5.tups tt⟩, ⟨_, upd_same, ?_⟩⟩, rfl⟩
            · omega
            · exact st10 _ _ (G5.ex b o e hb) (ne_of_none e ntl)
            · rw [List.map_append]
              refine paired_append (htk5.tups tt) (.cons ⟨t9, c7, t8, [l1, l2, l3], rfl, tup10 _ _ ?_, tup10 _ _ (s89 _ _ (s78 _ _ hc7)), tup10 _ _ (s89 _ _ h8), .inr rfl⟩ .nil)
              rw [h9]
              rfl
      · have hge : ps.length ≤ at_ := by
          have q : ¬ ((at_ : Int) < (ps.length : Int)) := fun z => hge (decide_eq_true z)
          omega
        obtain ⟨tks, htl4, htk4⟩ := G.tl_
        have dmem : d ∈ A.st.map (·.2.1) := List.mem_map.mpr ⟨_, List.mem_of_getElem? hz, rfl⟩
        have mmem : m ∈ A.st.map (·.2.2) := List.mem_map.mpr ⟨_, List.mem_of_getElem? hz, rfl⟩
        have hsl : s < S.length := (List.getElem?_eq_some_iff.mp hS).1
        have tu04 : Tups H H4 := fun b xs e => G.ex b _ e (by
          have q1 : b ≠ A.lines := ne_of e hl fun z => nomatch z
          have q2 : b ≠ d := ne_of e hd fun z => nomatch z
          have q3 : b ≠ m := ne_of e hm fun z => nomatch z
          simp [q1, q2, q3])
        refine ⟨_, rfl, k H4 tl L ts tks (G.ex.mono fun b hb => ?_) ⟨⟨dc, G.ex _ _ hc (by simp [cd, cm, cl])⟩, ?_, ?_, hA.len, by rw [List.length_set]; exact hA.lenS, fun i x' d' m' e => ?_, fun i x' d' m' z' e ez => ?_, fun i x' d' m' z' e ez => ?_, hA.ndd, hA.ndm⟩ (I.fin hge) ntl htl4 htk4 hLn⟩
        · have q : b = A.lines ∨ b = d ∨ b = m := by simpa using hb
          rcases q with rfl | rfl | rfl
          · exact List.mem_cons_self
          · exact List.mem_cons_of_mem _ (List.mem_append_left _ dmem)
          · exact List.mem_cons_of_mem _ (List.mem_append_right _ mmem)
        · obtain ⟨ys, h1, h2⟩ := G.ln
          have := lifts_le ok G.inv.mono
          exact ⟨ys, h1, by omega⟩
        · have nds := (List.nodup_cons.mp hA.ndm).1
          have q1 : A.steps ≠ A.lines := fun e => nds (by rw [e]; exact List.mem_cons_self)
          have q2 : A.steps ≠ d := ne_of hA.sl hd fun z => nomatch z
          have q3 : A.steps ≠ m := fun e => nds (by rw [e]; exact List.mem_cons_of_mem _ mmem)
          exact G.ex _ _ hA.sl (by simp [q1, q2, q3])
        · obtain ⟨dx', hx'⟩ := (hA.st _ _ _ _ e).ob
          exact ⟨dx', G.ex _ _ hx' (by
            have q1 : x' ≠ A.lines := ne_of hx' hl fun z => nomatch z
            have q2 : x' ≠ d := ne_of hx' hd fun z => nomatch z
            have q3 : x' ≠ m := ne_of hx' hm fun z => nomatch z
            simp [q1, q2, q3])⟩
        · by_cases hi : i = s
          · subst hi
            rw [hz] at e
            cases e
            rw [List.getElem?_set_self hsl] at ez
            cases ez
            exact G.lf
          · rw [List.getElem?_set_ne (Ne.symm hi)] at ez
            obtain ⟨kv', h1, h2⟩ := hA.lf _ _ _ _ _ e ez
            have q1 : d' ≠ A.lines := ne_of h1 hl fun z => nomatch z
            have q3 : d' ≠ m := ne_of h1 hm fun z => nomatch z
            have q2 : d' ≠ d := fun z => hi (nd_ix hA.ndd (by rw [List.getElem?_map, e]; exact congrArg some z) (by rw [List.getElem?_map, hz]; rfl))
            exact ⟨kv', G.ex _ _ h1 (by simp [q1, q2, q3]), h2.tups tu04⟩
        · by_cases hi : i = s
          · subst hi
            rw [hz] at e
            cases e
            rw [List.getElem?_set_self hsl] at ez
            cases ez
            exact G.mk_
          · rw [List.getElem?_set_ne (Ne.symm hi)] at ez
            obtain ⟨kv', h1, h2⟩ := hA.mks _ _ _ _ _ e ez
            have ndm := List.nodup_cons.mp (List.nodup_cons.mp hA.ndm).2
            have q1 : m' ≠ A.lines := fun z => ndm.1 (by rw [← z]; exact List.mem_map.mpr ⟨_, List.mem_of_getElem? e, rfl⟩)
            have q2 : m' ≠ d := ne_of h1 hd fun z => nomatch z
            have q3 : m' ≠ m := fun z => hi (nd_ix ndm.2 (by rw [List.getElem?_map, e]; exact congrArg some z) (by rw [List.getElem?_map, hz]; rfl))
            exact ⟨kv', G.ex _ _ h1 (by simp [q1, q2, q3]), h2.tups tu04⟩
end
end K43
/-! W7: Chain.add. -/
namespace K43
open PySem PySem.Spec PyProof.Rows L2
theorem paired_last {α β : Type} {F : α → β → Prop} {l₁ : List α} {l₂ : List β} {b : β} (h : Paired F l₁ (l₂ ++ [b])) : ∃ l a, l₁ = l ++ [a] ∧ Paired F l l₂ ∧ F a b := by
  induction l₂ generalizing l₁ with
  | nil =>
    cases h with
    | cons f r =>
      cases r
      exact ⟨[], _, rfl, .nil, f⟩
  | cons c l₂ ih =>
    cases h with
    | cons f r =>
      obtain ⟨l, a, e, p, q⟩ := ih r
      exact ⟨_ :: l, a, by rw [e]; rfl, .cons f p, q⟩
section
variable {n : Nat}
theorem ChAt.lines_ {K : PySem.W.Frag} {H H' : Hp} {A : CA} {S : List (Stp n)} {B B' : Nat} {ys : List V} (h : ChAt K H A S B) (e : Ex [A.lines] H H') (hl : H' A.lines = some (.lst ys)) (hb : ys.length ≤ B') : ChAt K H' A S B' := by
  obtain ⟨ys0, h0, _⟩ := h.ln
  have tu : Tups H H' := fun b xs q => e _ _ q (by simpa using ne_of q h0 fun z => nomatch z)
  have nds := List.nodup_cons.mp h.ndm
  have ndl := List.nodup_cons.mp nds.2
  refine ⟨?_, ⟨ys, hl, hb⟩, ?_, h.len, h.lenS, fun i x d m q => ?_, fun i x d m z q qz => ?_, fun i x d m z q qz => ?_, h.ndd, h.ndm⟩
  · obtain ⟨dx, a⟩ := h.ob
    exact ⟨dx, e _ _ a (by simpa using ne_of a h0 fun z => nomatch z)⟩
  · exact e _ _ h.sl (by
      have q : A.steps ≠ A.lines := fun z => nds.1 (by rw [z]; exact List.mem_cons_self)
      simpa using q)
  · obtain ⟨dx, a⟩ := (h.st _ _ _ _ q).ob
    exact ⟨dx, e _ _ a (by simpa using ne_of a h0 fun z => nomatch z)⟩
  · obtain ⟨kv, a, b⟩ := h.lf _ _ _ _ _ q qz
    exact ⟨kv, e _ _ a (by simpa using ne_of a h0 fun z => nomatch z), b.tups tu⟩
  · obtain ⟨kv, a, b⟩ := h.mks _ _ _ _ _ q qz
    exact ⟨kv, e _ _ a (by
      have q' : m ≠ A.lines := fun z => ndl.1 (by rw [← z]; exact List.mem_map.mpr ⟨_, List.mem_of_getElem? q, rfl⟩)
      simpa using q'), b.tups tu⟩
theorem ChAt.there {K : PySem.W.Frag} {H : Hp} {A : CA} {S : List (Stp n)} {B : Nat} (h : ChAt K H A S B) {b : Addr} (hb : b ∈ A.mut) : H b ≠ none := by
  have idx : ∀ {s : Nat} {z : Addr × Addr × Addr}, A.st[s]? = some z → ∃ st, S[s]? = some st := fun {s z} e => ⟨_, List.getElem?_eq_getElem (by
    have := (List.getElem?_eq_some_iff.mp e).1
    rw [h.len, ← h.lenS] at this
    exact this)⟩
  rcases List.mem_cons.mp hb with rfl | hb
  · obtain ⟨ys, e, _⟩ := h.ln
    rw [e]
    exact fun z => nomatch z
  · rcases List.mem_append.mp hb with hb | hb
    · obtain ⟨⟨x, d, m⟩, hz, rfl⟩ := List.mem_map.mp hb
      obtain ⟨j, hj⟩ := List.mem_iff_getElem?.mp hz
      obtain ⟨st, e⟩ := idx hj
      obtain ⟨kv, e2, _⟩ := h.lf _ _ _ _ _ hj e
      rw [e2]
      exact fun z => nomatch z
    · obtain ⟨⟨x, d, m⟩, hz, rfl⟩ := List.mem_map.mp hb
      obtain ⟨j, hj⟩ := List.mem_iff_getElem?.mp hz
      obtain ⟨st, e⟩ := idx hj
      obtain ⟨kv, e2, _⟩ := h.mks _ _ _ _ _ hj e
      rw [e2]
      exact fun z => nomatch z
/-- Ex of a chain's own: what is no list, no dict stays -/
theorem ChAt.tup_ {K : PySem.W.Frag} {H : Hp} {A : CA} {S : List (Stp n)} {B : Nat} (h : ChAt K H A S B) {b : Addr} {o : HO} (e : H b = some o) (h1 : ∀ xs, o ≠ .lst xs) (h2 : ∀ xs, o ≠ .dK xs) : b ∉ A.mut := fun hb => by
  have idx : ∀ {s : Nat} {z : Addr × Addr × Addr}, A.st[s]? = some z → ∃ st, S[s]? = some st := fun {s z} e => ⟨_, List.getElem?_eq_getElem (by
    have := (List.getElem?_eq_some_iff.mp e).1
    rw [h.len, ← h.lenS] at this
    exact this)⟩
  rcases List.mem_cons.mp hb with rfl | hb
  · obtain ⟨ys, e', _⟩ := h.ln
    rw [e] at e'
    exact h1 _ (Option.some.inj e')
  · rcases List.mem_append.mp hb with hb | hb
    · obtain ⟨⟨x, d, m⟩, hz, rfl⟩ := List.mem_map.mp hb
      obtain ⟨j, hj⟩ := List.mem_iff_getElem?.mp hz
      obtain ⟨st, e2⟩ := idx hj
      obtain ⟨kv, e3, _⟩ := h.lf _ _ _ _ _ hj e2
      rw [e] at e3
      exact h2 _ (Option.some.inj e3)
    · obtain ⟨⟨x, d, m⟩, hz, rfl⟩ := List.mem_map.mp hb
      obtain ⟨j, hj⟩ := List.mem_iff_getElem?.mp hz
      obtain ⟨st, e2⟩ := idx hj
      obtain ⟨kv, e3, _⟩ := h.mks _ _ _ _ _ hj e2
      rw [e] at e3
      exact h1 _ (Option.some.inj e3)
def BB (c0 : Nat) (S : List (Stp n)) : Nat := c0 + 3 * tot S + totL S
end
section
variable {P : Program} {w : World} {K : PySem.W.Frag} {mg : Str → Option Value} {base : Heap}
def spAdd (K : PySem.W.Frag) : Sp := fun vs H Q _ => ∃ (n : Nat) (win : List Nat) (A : CA) (S : List (Stp n)) (c0 : Nat) (a : Addr) (l : Int) (x : Pn n) (told : List (Pn n)),
  vs = [.ref A.c, .ref a, .int l] ∧ ChAt K H A S (BB c0 S) ∧ AInv win S [] ∧ Told told S [] ∧ PermAt H a x.1 ∧ Win win x ∧ win.Nodup ∧ win.length ≤ 4 ∧ n ≤ 60 ∧ c0 ≤ 100 ∧
  ∀ H' S', Ex A.mut H H' → ChAt K H' A S' (BB c0 S') → AInv win S' [] → Told (told ++ [x]) S' [] → Q .non H'
theorem scAdd : FnScope ["self", "one", "line", "tasks", "start", "found", "made"] ["self", "one", "line"] (defScope sChainAdd) := ⟨rfl, rfl, rfl, by decide +kernel, rfl, by decide +kernel, by decide +kernel⟩
theorem me_add (T : Tx K mg) : Me P w K mg base 3 (He.ga K "Chain") "add" ["self", "one", "line"] (spAdd K) := by
  obtain ⟨fd, F⟩ := T.d_ChainAdd
  refine ⟨fd, _, T.c_Chain, T.m_Chain_add, F.bindsN fun _ _ _ _ _ _ us hl => match us, hl with | [_, _, _], _ => rfl, F.ok scAdd (fun vs H Q E h => ?_) (fun cdv A0 outer s0 H vs Q E hr h => ?_)⟩
  · obtain ⟨n, win, A, S, c0, a, l, x, told, rfl, _⟩ := h
    rfl
  · obtain ⟨n, win, A, S, c0, a, l, x, told, rfl, hA, I, ht, ha, hw, hwn, hw4, hn, hc0, k⟩ := h
    refine ⟨_, PSs.nox (
      pss_cons (ps_set (i := 3) scAdd.nd rfl (Or.inl rfl) (pe_lst (pa_cons (pe_tup (pa_cons pe_int (pa_cons (pv 1) (pa_cons (pe_tup (pa_cons (pv 2) pa_nil)) pa_nil)))) pa_nil))) <|
      pss_one (ps_while PassesOwn.never (pt_cmpR op_gt (pe_callB call_len_seq rfl T.f_len boot_len (pa_cons (pv 3) pa_nil)) pe_int (nomark _)) (
        pss_cons (ps_asg (pe_bm0 PySem.F.plainAttrs_list PySem.F.slot_list_pop PySem.F.type_list_pop mt_pop (pv 3)) (pg_tup rfl (pgs_cons (pg_name (i := 4) scAdd.nd rfl (Or.inl rfl)) (pgs_cons (pg_name (i := 5) scAdd.nd rfl (Or.inl rfl)) (pgs_cons (pg_name (i := 6) scAdd.nd rfl (Or.inl rfl)) pgs_nil))))) <|
        pss_one (ps_if (pt_cmpR op_lt (pe_ix ix_tup (pe_me (me_rest T) (pv 0) hr (pa_cons (pv 5) (pa_cons (pv 4) pa_nil))) pe_int (fun _ _ => rfl)) (pe_fld (pv 0) rfl) (nomark _))
          (pss_one (ps_expr (pe_bm PySem.F.plainAttrs_list PySem.F.slot_list_extend PySem.F.type_list_extend mt_extend (pv 3) (pa_cons
            (pe_me (me_grown T) (pv 0) hr (pa_cons (pe_ix ix_list (pe_fld (pv 0) rfl) (pv 4) (fun _ _ => rfl)) (pa_cons (pv 5) (pa_cons (pe_me (me_line_of T) (pv 0) hr (pa_cons (pv 6) pa_nil)) pa_nil)))) pa_nil))))
          pss_nil)))), ?_⟩
    -- tasks = [(0, one, (line,))]
    refine ⟨_, rfl, _, rfl, (by show 1 ≤ sizeLine; decide), fun t1 ht1 => ⟨(by show 3 ≤ sizeLine; decide), fun t2 ht2 => ⟨(by show 1 ≤ sizeLine; decide), fun tl htl => ?_⟩⟩⟩
    have s1 : Same H (upd H t1 (.tup [.int l])) := same_upd ht1
    have e1 : (upd H t1 (.tup [.int l])) t1 = some (.tup [.int l]) := upd_same
    generalize (upd H t1 (.tup [.int l])) = H1 at s1 e1 ht2 htl
    have s2 : Same H1 (upd H1 t2 (.tup [.int 0, .ref a, .ref t1])) := same_upd ht2
    have e2 : (upd H1 t2 (.tup [.int 0, .ref a, .ref t1])) t2 = some (.tup [.int 0, .ref a, .ref t1]) := upd_same
    generalize (upd H1 t2 (.tup [.int 0, .ref a, .ref t1])) = H2 at s2 e2 htl
    have s3 : Same H2 (upd H2 tl (.lst [.ref t2])) := same_upd htl
    have sm := (s1.trans s2).trans s3
    have ntl : H tl = none := (s1.trans s2).free htl
    have tlm : tl ∉ A.mut := fun z => hA.there z ntl
    have T0 : Told (told ++ [x]) S [(0, x)] := fun y hy => by
      rcases List.mem_append.mp hy with q | q
      · rcases ht y q with z | z
        · exact .inl z
        · exact absurd z (by simp)
      · rw [List.mem_singleton.mp q]
        exact .inr (List.mem_singleton.mpr rfl)
    let Wd : Nat → L2.St → Hp → Prop := fun μ σ H' => ∃ (S' : List (Stp n)) (T' : List (Nat × Pn n)) (tks : List V) (v4 v5 v6 : Option V), σ = [some (.ref A.c), some (.ref a), some (.int l), some (.ref tl), v4, v5, v6] ∧
      Ex A.mut H H' ∧ ChAt K H' A S' (BB c0 S') ∧ AInv win S' T' ∧ Told (told ++ [x]) S' T' ∧ H' tl = some (.lst tks) ∧ TkRel H' tks T' ∧ μ = (24 * n - tot S') * 1500 + T'.length ∧ μ ≤ 24 * n * 1500 + 1
    refine ⟨Wd, ⟨_, S, [(0, x)], [.ref t2], _, _, _, rfl, .of sm, hA.same sm, I.begin_ hw, T0, upd_same, .cons ⟨t2, a, t1, [l], rfl, s3 _ _ e2, sm _ _ ha, s3 _ _ (s2 _ _ e1), .inl rfl⟩ .nil, rfl, ?_⟩, ?_⟩
    · have := Nat.mul_le_mul_right 1500 (Nat.sub_le (24 * n) (tot S))
      show (24 * n - tot S) * 1500 + 1 ≤ _
      omega
    rintro μ σ H4 ⟨S', T', tks, v4, v5, v6, rfl, ex4, hA4, I4, t4, htl4, tk4, rfl, hμ⟩
    have hlen : tks.length = T'.length := Paired.length tk4
    refine ⟨_, rfl, tl, _, rfl, .inl (SqL.of htl4), _, _, rfl, rfl, _, rfl, ?_⟩
    rw [hlen]
    refine ite2 (fun hlt => ?_) (fun hge => ?_)
    · have hlt : 0 < T'.length := by
        have q := of_decide_eq_true hlt
        omega
      refine ⟨fun σ' H' => ∃ μ', μ' < (24 * n - tot S') * 1500 + T'.length ∧ Wd μ' σ' H', fun σ' H' h => h, ?_⟩
      obtain ⟨T2, ⟨s, y⟩, rfl⟩ : ∃ T2 e, T' = T2 ++ [e] := ⟨T'.dropLast, T'.getLast (by intro z; rw [z] at hlt; simp at hlt), (List.dropLast_concat_getLast _).symm⟩
      obtain ⟨tks2, v, rfl, tk2, t0, p0, q0, is, rfl, ht0, hp0, hq0, his⟩ := paired_last tk4
      -- start, found, made = tasks.pop()
      refine ⟨_, rfl, .inl ⟨rfl, _, SqL.of htl4⟩, tl, _, .ref t0, rfl, rfl, htl4, by rw [List.length_append, List.length_singleton, Nat.add_sub_cancel, List.getElem?_append_right (Nat.le_refl _), Nat.sub_self]; rfl, ?_⟩
      rw [List.dropLast_concat]
      have tu5 : Tups H4 (upd H4 tl (.lst tks2)) := Tups.upd htl4 fun _ z => by cases z
      have ex5 : Ex [tl] H4 (upd H4 tl (.lst tks2)) := Ex.one
      have htl5 : (upd H4 tl (.lst tks2)) tl = some (.lst tks2) := upd_same
      have keep5 : ∀ b o, H4 b = some o → b ≠ tl → (upd H4 tl (.lst tks2)) b = some o := fun b o e hb => by rw [upd_ne hb]; exact e
      have hA5 : ChAt K (upd H4 tl (.lst tks2)) A S' (BB c0 S') := by
        have nm : ∀ {b o}, H b = some o → b ≠ tl := fun {b o} e z => by rw [z, ntl] at e; cases e
        have nst : A.steps ≠ tl := nm hA.sl
        refine ⟨?_, ?_, keep5 _ _ hA4.sl nst, hA4.len, hA4.lenS, fun i x d m q => ?_, fun i x d m z q qz => ?_, fun i x d m z q qz => ?_, hA4.ndd, hA4.ndm⟩
        · obtain ⟨dx, e⟩ := hA4.ob
          exact ⟨dx, keep5 _ _ e (ne_of e htl4 fun z => nomatch z)⟩
        · obtain ⟨ys, e, eb⟩ := hA4.ln
          exact ⟨ys, keep5 _ _ e (fun z => tlm (by rw [← z]; exact List.mem_cons_self)), eb⟩
        · obtain ⟨dx, e⟩ := (hA4.st _ _ _ _ q).ob
          exact ⟨dx, keep5 _ _ e (ne_of e htl4 fun z => nomatch z)⟩
        · obtain ⟨kv, e, r⟩ := hA4.lf _ _ _ _ _ q qz
          exact ⟨kv, keep5 _ _ e (ne_of e htl4 fun z => nomatch z), r.tups tu5⟩
        · obtain ⟨kv, e, r⟩ := hA4.mks _ _ _ _ _ q qz
          exact ⟨kv, keep5 _ _ e (fun z => tlm (by rw [← z]; exact List.mem_cons_of_mem _ (List.mem_append_right _ (List.mem_map.mpr ⟨_, List.mem_of_getElem? q, rfl⟩)))), r.tups tu5⟩
      have ex05 : Ex A.mut H (upd H4 tl (.lst tks2)) := fun b o e hb => keep5 _ _ (ex4 b o e hb) (fun z => by rw [z, ntl] at e; cases e)
      have tk5 : TkRel (upd H4 tl (.lst tks2)) tks2 T2 := TkRel.tups (show TkRel H4 tks2 T2 from tk2) tu5
      have ht5 := tu5 _ _ ht0
      have hp5 : PermAt (upd H4 tl (.lst tks2)) p0 y.1 := tu5 _ _ hp0
      have hq5 := tu5 _ _ hq0
      generalize (upd H4 tl (.lst tks2)) = H5 at htl5 hA5 ex05 tk5 ht5 hp5 hq5
      refine ⟨t0, _, rfl, SqT.of ht5, rfl, _, _, rfl, _, _, rfl, _, _, rfl, rfl, ?_⟩
      -- if self.rest(found, start)[0] < self.many
      obtain ⟨dc, hc5⟩ := hA5.ob
      have hsn := I4.top_n
      refine ⟨_, rfl, A.c, dc, _, rfl, hc5, rfl, _, rfl, _, rfl, n, A, S', _, p0, s, y, rfl, hA5, hp5, hsn, hn, fun H6 t6 a6 s6 ht6 _ => ?_⟩
      have hA6 := hA5.same s6
      obtain ⟨dc6, hc6⟩ := hA6.ob
      refine ⟨t6, _, _, .int ((rst (S'.drop s) s y).1 : Nat), rfl, rfl, SqT.of ht6, rfl, _, rfl, A.c, _, dc6, _, _, rfl, hc6, T.c_Chain, T.n_Chain_many, chainF_many _ _ _, _, _, rfl, rfl, _, rfl, ?_⟩
      have selfl : ∀ (i : Nat) (st : Stp n), (S'.drop s)[i]? = some st → st.lifts.lookup (s + i) = some (Pn.one n) := fun i st e => by
        rw [List.getElem?_drop] at e
        exact (I4.ok _ _ e).self
      have el : s + (S'.drop s).length = n := by
        rw [List.length_drop, I4.len]
        omega
      have hA6tl := s6 _ _ htl5
      have ex06 : Ex A.mut H H6 := ex05.trans (.of s6)
      have tk6 := tk5.tups (.same s6)
      rcases rst_sf (S'.drop s) s y selfl with ⟨r1, sfy⟩ | ⟨r1, nsf⟩
      · rw [el] at r1
        rw [r1, decide_eq_false (by omega : ¬ (n : Int) < (n : Int))]
        refine iteF ⟨_, ?_, S', T2, tks2, _, _, _, rfl, ex06, hA6, I4.skip sfy, Told.skip I4 t4 sfy, hA6tl, tk6, rfl, ?_⟩
        · rw [List.length_append, List.length_singleton]
          omega
        · rw [List.length_append, List.length_singleton] at hμ
          omega
      · rw [el] at r1
        rw [decide_eq_true (by omega : (((rst (S'.drop s) s y).1 : Nat) : Int) < (n : Int))]
        obtain ⟨st, hS, hsn', hy, cp⟩ := I4.fresh nsf
        obtain ⟨⟨sx, d, m⟩, hz⟩ : ∃ z, A.st[s]? = some z := ⟨_, List.getElem?_eq_getElem (by rw [hA6.len]; exact hsn')⟩
        refine iteT ⟨_, rfl, .inl ⟨rfl, _, SqL.of hA6tl⟩, _, rfl, A.c, dc6, _, rfl, hc6, rfl, _, rfl, A.c, _, dc6, _, _, rfl, hc6, T.c_Chain, T.n_Chain_steps, chainF_steps _ _ _, _, rfl, A.steps, _, _, .ref sx, rfl, rfl, SqL.of hA6.sl, atI_natV (by rw [List.getElem?_map, hz]; rfl), _, rfl, ?_⟩
        -- self.line_of(made)
        obtain ⟨ys, hl6, hyl⟩ := hA6.ln
        have htot := I4.tot24 hwn hw4
        have htotL := I4.totLn
        have hnn : n * n ≤ 60 * 60 := Nat.mul_le_mul hn hn
        have hBB : BB c0 S' ≤ 10000 := by
          unfold BB
          omega
        refine ⟨_, rfl, A.c, dc6, _, rfl, hc6, rfl, _, rfl, A.c, A.lines, A.steps, dc6, q0, n, is, ys, rfl, hc6, hl6, by omega, s6 _ _ hq5, his, fun H7 li ys7 ex7 hl7 hyl7 => ?_⟩
        have hA7 : ChAt K H7 A S' (BB c0 S' + 3) := hA6.lines_ ex7 hl7 (by omega)
        have tlL : tl ∉ [A.lines] := fun z => tlm (by rw [List.mem_singleton.mp z]; exact List.mem_cons_self)
        have tuL : Tups H6 H7 := fun b xs q => ex7 _ _ q (by simpa using ne_of q hl6 fun z => nomatch z)
        have hp7 : PermAt H7 p0 y.1 := tuL _ _ (s6 _ _ hp5)
        have ex07 : Ex A.mut H H7 := ex06.trans (ex7.mono fun b hb => by rw [List.mem_singleton.mp hb]; exact List.mem_cons_self)
        refine ⟨n, A, S', _, s, sx, d, m, p0, li, y, st, rfl, hA7, hz, hS, hp7, hn, hsn', by omega, by have := I4.few hwn hw4 hS; omega, I4.ok _ _ hS, I4.top_f, cp, fun H8 t8 L ts tks8 ex8 hA8 G8 nt8 ht8 tk8 hLn => ?_⟩
        have htl7 : H7 tl = some (.lst tks2) := ex7 _ _ hA6tl tlL
        have htl8 : H8 tl = some (.lst tks2) := ex8 _ _ htl7 tlm
        have I8 := I4.grow hS hsn' hy G8
        have hM8 : (st.makers ++ [y]).length ≤ 24 := I8.few hwn hw4 (List.getElem?_set_self (List.getElem?_eq_some_iff.mp hS).1)
        have htsl := G8.tsl
        have hmul : L.length * (st.makers ++ [y]).length ≤ 60 * 24 := Nat.mul_le_mul (by omega) hM8
        have htks8 : tks8.length = ts.length := by
          have q := Paired.length tk8
          rw [List.length_map] at q
          exact q
        have htks2 : tks2.length = T2.length := Paired.length tk5
        have ets : tot (S'.set s ⟨L, st.makers ++ [y]⟩) = tot S' + 1 := by
          have q := tot_set (z := ⟨L, st.makers ++ [y]⟩) hS
          have q2 : (Stp.makers ⟨L, st.makers ++ [y]⟩).length = st.makers.length + 1 := by
            show (st.makers ++ [y]).length = _
            rw [List.length_append, List.length_singleton]
          omega
        have ets2 := totL_set (z := ⟨L, st.makers ++ [y]⟩) hS
        have htot8 := I8.tot24 hwn hw4
        rw [List.length_append, List.length_singleton] at hμ
        have hsz : sizeLine = 16777216 := sizeLine_eq
        have tu78 : Tups H7 H8 := fun b xs q => ex8 _ _ q (hA7.tup_ q (fun _ z => nomatch z) (fun _ z => nomatch z))
        have nt8' : tl ≠ t8 := ne_of_none htl7 nt8
        refine ⟨tl, t8, tks2, tks8, rfl, rfl, htl8, ht8, by omega, ?_⟩
        have tu9 : Tups H8 (upd H8 tl (.lst (tks2 ++ tks8))) := Tups.upd htl8 fun _ z => by cases z
        have keep9 : ∀ b o, H8 b = some o → b ≠ tl → (upd H8 tl (.lst (tks2 ++ tks8))) b = some o := fun b o e hb => by rw [upd_ne hb]; exact e
        have eB : BB c0 S' + 3 + L.length - st.lifts.length = BB c0 (S'.set s ⟨L, st.makers ++ [y]⟩) := by
          unfold BB
          rw [ets]
          have ets2 : totL (S'.set s ⟨L, st.makers ++ [y]⟩) + st.lifts.length = totL S' + L.length := ets2
          omega
        rw [eB] at hA8
        refine ⟨_, ?_, S'.set s ⟨L, st.makers ++ [y]⟩, T2 ++ ts.map (fun g => (s + 1, g)), tks2 ++ tks8, _, _, _, rfl, fun b o e hb => ?_, ?_, I8, Told.grow t4 hS, upd_same, ?_, rfl, ?_⟩
        · rw [ets, List.length_append, List.length_map, List.length_append, List.length_singleton]
          have e1 : 24 * n - tot S' = (24 * n - (tot S' + 1)) + 1 := by omega
          rw [e1, Nat.succ_mul]
          omega
        · exact keep9 _ _ (ex8 _ _ (ex07 b o e hb) hb) (fun z => by rw [z, ntl] at e; cases e)
        · have nst : A.steps ≠ tl := fun z => by
            have q := hA.sl
            rw [z, ntl] at q
            cases q
          refine ⟨?_, ?_, keep9 _ _ hA8.sl nst, hA8.len, hA8.lenS, fun i x d m q => ?_, fun i x d m z q qz => ?_, fun i x d m z q qz => ?_, hA8.ndd, hA8.ndm⟩
          · obtain ⟨dx, e⟩ := hA8.ob
            exact ⟨dx, keep9 _ _ e (ne_of e htl8 fun z => nomatch z)⟩
          · obtain ⟨ys, e, eb⟩ := hA8.ln
            exact ⟨ys, keep9 _ _ e (fun z => tlm (by rw [← z]; exact List.mem_cons_self)), eb⟩
          · obtain ⟨dx, e⟩ := (hA8.st _ _ _ _ q).ob
            exact ⟨dx, keep9 _ _ e (ne_of e htl8 fun z => nomatch z)⟩
          · obtain ⟨kv, e, r⟩ := hA8.lf _ _ _ _ _ q qz
            exact ⟨kv, keep9 _ _ e (ne_of e htl8 fun z => nomatch z), r.tups tu9⟩
          · obtain ⟨kv, e, r⟩ := hA8.mks _ _ _ _ _ q qz
            exact ⟨kv, keep9 _ _ e (fun z => tlm (by rw [← z]; exact List.mem_cons_of_mem _ (List.mem_append_right _ (List.mem_map.mpr ⟨_, List.mem_of_getElem? q, rfl⟩)))), r.tups tu9⟩
        · exact paired_append (tk6.tups ((tuL.trans tu78).trans tu9)) (tk8.tups tu9)
        · rw [ets, List.length_append, List.length_map]
          have e1 : 24 * n - tot S' = (24 * n - (tot S' + 1)) + 1 := by omega
          rw [e1, Nat.succ_mul] at hμ
          omega
    · have e0 : T' = [] := by
        cases T' with
        | nil => rfl
        | cons e r =>
          refine absurd ?_ hge
          rw [List.length_cons]
          exact decide_eq_true (by omega)
      subst e0
      exact k H4 S' ex4 hA4 I4 t4
end
end K43
/-! W8: is_of, looked_makers, Group. -/
namespace K43
open PySem PySem.Spec PyProof.Rows L2
def PsRel {n : Nat} (H : Hp) (xs : List V) (ms : List (Pn n)) : Prop := Paired (fun (x : V) (p : Pn n) => ∃ a, x = .ref a ∧ PermAt H a p.1) xs ms
theorem PsRel.tups {n : Nat} {H H' : Hp} {xs : List V} {ms : List (Pn n)} (h : PsRel H xs ms) (s : Tups H H') : PsRel H' xs ms := Paired.mapP h fun _ _ ⟨a, e, b⟩ => ⟨a, e, s _ _ b⟩
def groupF (r : Addr) (n : Nat) (c st : Addr) : List (Str × V) := [("made", .ref r), ("many", .int (n : Int)), ("chain", .ref c), ("steps", .ref st)]
theorem groupF_made (r : Addr) (n : Nat) (c st : Addr) : (groupF r n c st).lookup ("made" : Str) = some (.ref r) := by rfl
theorem groupF_many (r : Addr) (n : Nat) (c st : Addr) : (groupF r n c st).lookup ("many" : Str) = some (.int (n : Int)) := by rfl
theorem groupF_chain (r : Addr) (n : Nat) (c st : Addr) : (groupF r n c st).lookup ("chain" : Str) = some (.ref c) := by rfl
/-- a group of the makers ms of n places stands at x -/
structure GrAt (K : PySem.W.Frag) (H : Hp) (x : Addr) {n : Nat} (ms : List (Pn n)) : Prop where
  ex : ∃ (dx r st : Addr) (xs : List V) (A : CA) (S : List (Stp n)) (B : Nat), H x = some (.ins (He.ga K "Group") dx (groupF r n A.c st)) ∧ H r = some (.lst xs) ∧ PsRel H xs ms ∧ xs.length ≤ 200 ∧ ChAt K H A S B ∧
    (∀ (i : Nat) (z : Stp n), S[i]? = some z → z.lifts.lookup i = some (Pn.one n)) ∧ ∀ g, Gen (fun m => m ∈ ms) g → sf S 0 g
theorem GrAt.same {K : PySem.W.Frag} {H H' : Hp} {x : Addr} {n : Nat} {ms : List (Pn n)} (h : GrAt K H x ms) (s : Same H H') : GrAt K H' x ms := by
  obtain ⟨dx, r, st, xs, A, S, B, a, b, c, d, e, f, g⟩ := h.ex
  exact ⟨dx, r, st, xs, A, S, B, s _ _ a, s _ _ b, c.tups (.same s), d, e.same s, f, g⟩
theorem ChAt.monoB {n : Nat} {K : PySem.W.Frag} {H : Hp} {A : CA} {S : List (Stp n)} {B B' : Nat} (h : ChAt K H A S B) (b : B ≤ B') : ChAt K H A S B' :=
  ⟨h.ob, let ⟨ys, e, q⟩ := h.ln; ⟨ys, e, Nat.le_trans q b⟩, h.sl, h.len, h.lenS, h.st, h.lf, h.mks, h.ndd, h.ndm⟩
/-- an instance that is no part of a chain is written -/
theorem ChAt.ins_ {n : Nat} {K : PySem.W.Frag} {H H' : Hp} {A : CA} {S : List (Stp n)} {B : Nat} (h : ChAt K H A S B) {x C dx : Addr} {fs : List (Str × V)} (hx : H x = some (.ins C dx fs)) (n1 : ∀ n a b, fs ≠ chainF n a b) (n2 : ∀ n a b, fs ≠ stepF n a b)
    (k : ∀ b o, H b = some o → b ≠ x → H' b = some o) : ChAt K H' A S B := by
  have tu : Tups H H' := fun b xs q => k _ _ q (ne_of q hx fun z => nomatch z)
  refine ⟨?_, ?_, k _ _ h.sl (ne_of h.sl hx fun z => nomatch z), h.len, h.lenS, fun i x d m q => ?_, fun i x d m z q qz => ?_, fun i x d m z q qz => ?_, h.ndd, h.ndm⟩
  · obtain ⟨dx', e⟩ := h.ob
    exact ⟨dx', k _ _ e (ne_of e hx fun z => by injection z with _ _ z; exact n1 _ _ _ z.symm)⟩
  · obtain ⟨ys, e, eb⟩ := h.ln
    exact ⟨ys, k _ _ e (ne_of e hx fun z => nomatch z), eb⟩
  · obtain ⟨dx', e⟩ := (h.st _ _ _ _ q).ob
    exact ⟨dx', k _ _ e (ne_of e hx fun z => by injection z with _ _ z; exact n2 _ _ _ z.symm)⟩
  · obtain ⟨kv, e, r⟩ := h.lf _ _ _ _ _ q qz
    exact ⟨kv, k _ _ e (ne_of e hx fun z => nomatch z), r.tups tu⟩
  · obtain ⟨kv, e, r⟩ := h.mks _ _ _ _ _ q qz
    exact ⟨kv, k _ _ e (ne_of e hx fun z => nomatch z), r.tups tu⟩
section
variable {P : Program} {w : World} {K : PySem.W.Frag} {mg : Str → Option Value} {base : Heap}
def spIsOf : Sp := fun vs H Q _ => ∃ (n : Nat) (a : Addr) (p : List Nat), vs = [.ref a, .int (n : Int)] ∧ PermAt H a p ∧ IsP n p ∧ 1 ≤ n ∧ n ≤ 60 ∧ ∀ H', Same H H' → Q (.bl true) H'
theorem scIsOf : FnScope ["thing", "many"] ["thing", "many"] (defScope sIsOf) := ⟨rfl, rfl, rfl, by decide +kernel, rfl, by decide +kernel, by decide +kernel⟩
theorem fn_is_of (T : Tx K mg) : Fn P w K mg base 3 "is_of" ["thing", "many"] spIsOf := by
  obtain ⟨fd, F⟩ := T.d_IsOf
  refine ⟨fd, T.g_is_of, F.kp, F.bindsN fun _ _ _ _ _ _ us hl => match us, hl with | [_, _], _ => rfl, F.ok scIsOf (fun vs H Q E h => ?_) (fun cdv A outer s H vs Q E hr h => ?_)⟩
  · obtain ⟨n, a, p, rfl, _⟩ := h
    rfl
  · obtain ⟨n, a, p, rfl, ha, ip, h1, h60, k⟩ := h
    refine ⟨_, PSs.nox (pss_one (ps_ret (pe_and (pe_fn (fn_is_turning T) hr rfl (pa_cons (pv 0) pa_nil)) (pe_one (pe_cmpR op_eq (pe_callB call_len_seq rfl T.f_len boot_len (pa_cons (pv 0) pa_nil)) (pv 1) (nomark _)))))), ?_⟩
    refine ⟨_, rfl, n, a, p, rfl, ha, ip, h1, h60, fun H' sm => ⟨true, rfl, iteT ⟨_, rfl, a, _, rfl, .inr (SqT.of (sm _ _ ha)), _, rfl, rfl, ?_⟩⟩⟩
    have e : decide (V.int (((p.map nV).length : Nat) : Int) = V.int (n : Int)) = true := decide_eq_true (by rw [List.length_map, ip.len])
    show Q (.bl (decide (V.int (((p.map nV).length : Nat) : Int) = V.int (n : Int)))) H'
    rw [e]
    exact k H' sm
def spLookedMakers : Sp := fun vs H Q _ => ∃ (n : Nat) (l : Addr) (xs : List V) (ms : List (Pn n)), vs = [.int (n : Int), .ref l] ∧ H l = some (.lst xs) ∧ PsRel H xs ms ∧ xs.length ≤ 200 ∧ 1 ≤ n ∧ n ≤ 60 ∧
  ∀ H' r, Same H H' → H' r = some (.lst xs) → H r = none → Q (.ref r) H'
theorem scLookedMakers : FnScope ["many", "makers", "one"] ["many", "makers"] (defScope sLookedMakers) := ⟨rfl, rfl, rfl, by decide +kernel, rfl, by decide +kernel, by decide +kernel⟩
theorem fn_looked_makers (T : Tx K mg) : Fn P w K mg base 4 "looked_makers" ["many", "makers"] spLookedMakers := by
  obtain ⟨fd, F⟩ := T.d_LookedMakers
  refine ⟨fd, T.g_looked_makers, F.kp, F.bindsN fun _ _ _ _ _ _ us hl => match us, hl with | [_, _], _ => rfl, F.ok scLookedMakers (fun vs H Q E h => ?_) (fun cdv A outer s H vs Q E hr h => ?_)⟩
  · obtain ⟨n, l, xs, ms, rfl, _⟩ := h
    rfl
  · obtain ⟨n, l, xs, ms, rfl, hl, hps, hlen, h1, h60, k⟩ := h
    obtain ⟨tP, hP⟩ := T.i_MOST_PLACES_groups
    obtain ⟨tM, hM⟩ := T.i_MOST_MAKERS
    refine ⟨_, PSs.nox (
      pss_cons (ps_if (PW.pt (pw_or (pt_not (pt_val (pe_fn (fn_is_whole T) (hr.mono (by decide)) rfl (pa_cons (pv 0) pa_nil)))) (pw_or1 (pt_not (pt_chain op_le op_le pe_int (pv 0) (pe_glob (v := .int 60) rfl hP ⟨tP, rfl⟩)))))) (pss_one ps_never) pss_nil) <|
      pss_cons (ps_if (PW.pt (pw_or (pt_not (pt_val (pe_callB call_isi rfl T.f_isinstance boot_isinstance (pa_cons (pv 1) (pa_cons (pe_bltn (v := .ty "list") rfl T.f_list (by decide +kernel) rfl) pa_nil)))))
        (pw_or1 (pt_cmpR op_gt (pe_callB call_len_seq rfl T.f_len boot_len (pa_cons (pv 1) pa_nil)) (pe_glob (v := .int 200) rfl hM ⟨tM, rfl⟩) (nomark _))))) (pss_one ps_never) pss_nil) <|
      pss_cons (ps_for PassesOwn.never rfl (pi_list (pv 1)) (pg_name (i := 2) scLookedMakers.nd rfl (Or.inl rfl))
        (pss_one (ps_if (pt_not (pt_val (pe_fn (fn_is_of T) hr rfl (pa_cons (pv 2) (pa_cons (pv 0) pa_nil))))) (pss_one ps_never) pss_nil))) <|
      pss_one (ps_ret (pe_callTy call_list_of rfl T.f_list boot_list (pa_cons (pv 1) pa_nil)))), ?_⟩
    refine ⟨_, rfl, (n : Int), rfl, true, rfl, iteF ⟨_, rfl, _, _, rfl, rfl, true, decide_eq_true (by omega : (1 : Int) ≤ n) ▸ rfl, iteT ⟨_, _, rfl, rfl, true, decide_eq_true (by omega : (n : Int) ≤ 60) ▸ rfl, iteF ?_⟩⟩⟩
    refine ⟨_, rfl, _, _, _, _, true, rfl, .ty _, .base (.lst hl), kit_ty (by decide +kernel), true, rfl, iteF ?_⟩
    refine ⟨_, rfl, l, _, rfl, .inl (SqL.of hl), _, _, rfl, rfl, _, rfl, ?_⟩
    rw [decide_eq_false (by omega : ¬ (200 : Int) < (xs.length : Int))]
    refine iteF ?_
    refine ⟨_, rfl, l, rfl, ⟨_, SqL.of hl⟩, for_list (K := K) (a := l) (xs := xs) (fun i σ H2 => ∃ v : Option V, σ = [some (.int (n : Int)), some (.ref l), v] ∧ Same H H2) ⟨none, rfl, .refl _⟩ (fun i σ H2 _ ⟨_, _, e⟩ => SqL.of (e _ _ hl)) ?_ ?_⟩
    · rintro i y σ H2 hi ⟨v, rfl, sm⟩
      obtain ⟨p, hp, a, rfl, ha⟩ := paired_get' hps hi
      exact ⟨_, rfl, _, rfl, n, a, p.1, rfl, sm _ _ ha, p.2, h1, h60, fun H3 s3 => ⟨true, rfl, iteF ⟨_, rfl, sm.trans s3⟩⟩⟩
    · rintro σ H2 ⟨v, rfl, sm⟩
      exact ⟨_, rfl, l, xs, rfl, .inl (SqL.of (sm _ _ hl)), fun r hr' => k _ r (sm.trans (same_upd hr')) upd_same (sm.free hr')⟩
end
end K43
/-! W9: Group.__init__, Group.told, Group.has. -/
namespace K43
open PySem PySem.Spec PyProof.Rows L2
section
variable {P : Program} {w : World} {K : PySem.W.Frag} {mg : Str → Option Value} {base : Heap}
def spGroup (K : PySem.W.Frag) : Sp := fun vs H Q _ => ∃ (n : Nat) (win : List Nat) (x dx l : Addr) (xs : List V) (ms : List (Pn n)), vs = [.ref x, .int (n : Int), .ref l] ∧ H x = some (.ins (He.ga K "Group") dx []) ∧ H l = some (.lst xs) ∧ PsRel H xs ms ∧
  (∀ m, m ∈ ms → Win win m) ∧ win.Nodup ∧ win.length ≤ 4 ∧ xs.length ≤ 50 ∧ 1 ≤ n ∧ n ≤ 60 ∧ ∀ H', (∀ b o, H b = some o → b ≠ x → H' b = some o) → GrAt K H' x ms → Q .non H'
abbrev groupN : List Str := ["self", "many", "makers", "k", "step"]
theorem scGroup : FnScope groupN ["self", "many", "makers"] (defScope sGroupInit) := ⟨rfl, rfl, rfl, by decide +kernel, rfl, by decide +kernel, by decide +kernel⟩
theorem tot_S0 (n : Nat) : tot (S0 n) = 0 := by
  unfold tot S0
  rw [List.map_map]
  exact Nat.eq_zero_of_le_zero (by
    have q := sum_const (f := fun s : Nat => ((fun st : Stp n => st.makers.length) ∘ fun s => (⟨[(s, Pn.one n)], []⟩ : Stp n)) s) (c := 0) (l := List.range n) fun _ _ => rfl
    rw [q]
    simp)
theorem mc_group (T : Tx K mg) : Mc P w K mg base 6 "Group" ["self", "many", "makers"] [] (spGroup K) := by
  obtain ⟨fd, F⟩ := T.d_GroupInit
  refine ⟨fd, _, [], T.g_Group, T.k_Group, .nil, F.bindsN fun _ _ _ _ _ _ us hl => match us, hl with | [_, _, _], _ => rfl, F.ok scGroup (fun vs H Q E h => ?_) (fun cdv A0 outer s H vs Q E hr h => ?_)⟩
  · obtain ⟨n, win, x, dx, l, xs, ms, rfl, _⟩ := h
    rfl
  · obtain ⟨n, win, x, dx, l, xs, ms, rfl, hx, hl, hps, hw, hwn, hw4, hlen, h1, h60, k⟩ := h
    refine ⟨_, PSs.nox (
      pss_cons (ps_fld (pv 0) (pe_fn (fn_looked_makers T) (hr.mono (by decide)) rfl (pa_cons (pv 1) (pa_cons (pv 2) pa_nil))) rfl) <|
      pss_cons (ps_fld (pv 0) (pv 1) rfl) <|
      pss_cons (ps_fld (pv 0) (pe_mc (mc_chain T) (hr.mono (by decide)) rfl (pa_cons (pv 1) pa_nil)) rfl) <|
      pss_cons (ps_for PassesOwn.never rfl (pi_range1 rfl T.f_range (pa_cons (pe_callB call_len_seq rfl T.f_len boot_len (pa_cons (pe_fld (pv 0) rfl) pa_nil)) pa_nil)) (pg_name (i := 3) scGroup.nd rfl (Or.inl rfl))
        (pss_one (ps_expr (pe_me (me_add T) (pe_fld (pv 0) rfl) (hr.mono (by decide)) (pa_cons (pe_ix ix_list (pe_fld (pv 0) rfl) (pv 3) (fun _ _ => rfl)) (pa_cons (pe_me (me_noted T) (pe_fld (pv 0) rfl) (hr.mono (by decide)) (pa_cons (pe_tup (pa_cons pe_str (pa_cons (pv 3) pa_nil))) pa_nil)) pa_nil)))))) <|
      pss_one (ps_fld (pv 0) (pe_lc (own := [("step", 4)]) (g := gName 4) (tt := tTest (tOp (rI0 fun i j => .bl (decide (j < i))) (tCB (fun xs H Q => ∃ a kvs, xs = [V.ref a] ∧ H a = some (.dK kvs) ∧ Q (.int kvs.length) H) (tCons (tFld K (tVar 4) "lifts") tNil)) (tC (.int 1)))) (te := tVar 4)
        rfl scGroup.nd (pi_list (pe_fld (pe_fld (pv 0) rfl) rfl)) (blkOk_by (own := [("step", 4)]) (N := groupN) (sc := defScope sGroupInit) (by decide +kernel))
        (fun _ _ _ _ _ => pg_name (i := 4) scGroup.nd rfl (Or.inl rfl)) (fun _ _ _ _ _ => pts_one (pt_cmpR op_gt (pe_callB call_lenD rfl T.f_len boot_len (pa_cons (pe_fld (pv 4) rfl) pa_nil)) pe_int (nomark _)))
        (fun _ _ _ _ _ => pv 4)) rfl)), ?_⟩
    -- self.made = looked_makers(many, makers)
    refine ⟨_, rfl, _, rfl, n, l, xs, ms, rfl, hl, hps, by omega, h1, h60, fun H1 r s1 hr1 nr => ?_⟩
    have hx1 := s1 _ _ hx
    refine ⟨_, rfl, x, _, dx, [], rfl, hx1, T.c_Group, T.n_Group_made, (by show 0 < 1000; decide), ?_⟩
    -- self.many = many
    refine ⟨_, rfl, _, rfl, x, _, dx, _, rfl, upd_same, T.c_Group, T.n_Group_many, (by show 1 < 1000; decide), ?_⟩
    rw [upd_upd]
    have e2 : putF "many" (V.int (n : Int)) (putF "made" (.ref r) []) = ([("made", .ref r), ("many", .int (n : Int))] : List (Str × V)) := rfl
    rw [e2]
    have hx2 : (upd H1 x (.ins (He.ga K "Group") dx [("made", .ref r), ("many", .int (n : Int))])) x = some (.ins (He.ga K "Group") dx [("made", .ref r), ("many", .int (n : Int))]) := upd_same
    have old2 : ∀ b o, H1 b = some o → b ≠ x → (upd H1 x (.ins (He.ga K "Group") dx [("made", .ref r), ("many", .int (n : Int))])) b = some o := fun b o e hb => by rw [upd_ne hb]; exact e
    have hr2 : (upd H1 x (.ins (He.ga K "Group") dx [("made", .ref r), ("many", .int (n : Int))])) r = some (.lst xs) := old2 _ _ hr1 (ne_of hr1 hx1 fun z => nomatch z)
    have tu2 : Tups H (upd H1 x (.ins (He.ga K "Group") dx [("made", .ref r), ("many", .int (n : Int))])) := (Tups.same s1).trans (Tups.upd hx1 fun _ z => by cases z)
    have old02 : ∀ b o, H b = some o → b ≠ x → (upd H1 x (.ins (He.ga K "Group") dx [("made", .ref r), ("many", .int (n : Int))])) b = some o := fun b o e hb => old2 _ _ (s1 _ _ e) hb
    generalize (upd H1 x (.ins (He.ga K "Group") dx [("made", .ref r), ("many", .int (n : Int))])) = H2 at hx2 old2 hr2 tu2 old02
    -- self.chain = Chain(many)
    refine ⟨_, rfl, fun c dc nc ndc ncd => ⟨c, dc, n, rfl, h60, upd_same, fun H3 A hAc kp hA hfree => ⟨rfl, ?_⟩⟩⟩
    have s23 : Same H2 H3 := Same.made nc ndc kp
    have free2 : ∀ b, b ∈ A.mut → H2 b = none := fun b hb => by
      have q := hfree b hb
      by_cases e1 : b = c
      · rw [e1, upd_same] at q; cases q
      · rw [upd_ne e1] at q
        by_cases e2 : b = dc
        · rw [e2, upd_same] at q; cases q
        · rw [upd_ne e2] at q
          exact q
    have hx3 := s23 _ _ hx2
    have hr3 := s23 _ _ hr2
    have hrx : r ≠ x := ne_of hr2 hx2 fun z => nomatch z
    refine ⟨_, rfl, x, _, dx, _, rfl, hx3, T.c_Group, T.n_Group_chain, (by show 2 < 1000; decide), ?_⟩
    have e3 : putF "chain" (.ref c) [("made", .ref r), ("many", V.int (n : Int))] = ([("made", .ref r), ("many", .int (n : Int)), ("chain", .ref c)] : List (Str × V)) := rfl
    rw [e3]
    have hx4 : (upd H3 x (.ins (He.ga K "Group") dx [("made", .ref r), ("many", .int (n : Int)), ("chain", .ref c)])) x = some (.ins (He.ga K "Group") dx [("made", .ref r), ("many", .int (n : Int)), ("chain", .ref c)]) := upd_same
    have old4 : ∀ b o, H3 b = some o → b ≠ x → (upd H3 x (.ins (He.ga K "Group") dx [("made", .ref r), ("many", .int (n : Int)), ("chain", .ref c)])) b = some o := fun b o e hb => by rw [upd_ne hb]; exact e
    have hr4 := old4 _ _ hr3 hrx
    have hA4 : ChAt K (upd H3 x (.ins (He.ga K "Group") dx [("made", .ref r), ("many", .int (n : Int)), ("chain", .ref c)])) A (S0 n) 1 :=
      hA.ins_ hx3 (fun n a b z => by
        have q := congrArg List.length z
        exact absurd q (by show ¬ (2 : Nat) = 3; decide)) (fun n a b z => by
        have q := congrArg List.length z
        exact absurd q (by show ¬ (2 : Nat) = 3; decide)) old4
    have tu4 : Tups H2 (upd H3 x (.ins (He.ga K "Group") dx [("made", .ref r), ("many", .int (n : Int)), ("chain", .ref c)])) := (Tups.same s23).trans (Tups.upd hx3 fun _ z => by cases z)
    have old24 : ∀ b o, H2 b = some o → b ≠ x → (upd H3 x (.ins (He.ga K "Group") dx [("made", .ref r), ("many", .int (n : Int)), ("chain", .ref c)])) b = some o := fun b o e hb => old4 _ _ (s23 _ _ e) hb
    generalize (upd H3 x (.ins (He.ga K "Group") dx [("made", .ref r), ("many", .int (n : Int)), ("chain", .ref c)])) = H4 at hx4 hr4 hA4 tu4 old24
    have ps4 : PsRel H4 xs ms := hps.tups (tu2.trans tu4)
    have hml : xs.length = ms.length := Paired.length hps
    have rm : r ∉ A.mut := fun z => by rw [free2 r z] at hr2; cases hr2
    have xm : x ∉ A.mut := fun z => by rw [free2 x z] at hx2; cases hx2
    -- for k in range(len(self.made))
    refine ⟨_, rfl, x, _, dx, _, _, rfl, hx4, T.c_Group, T.n_Group_made, rfl, r, _, rfl, .inl (SqL.of hr4), (xs.length : Int), rfl, by omega, by omega, for_range (lo := 0) (n := ((xs.length : Nat) : Int).toNat)
      (fun i σ H5 => ∃ (S : List (Stp n)) (v : Option V), σ = [some (.ref x), some (.int (n : Int)), some (.ref l), v, none] ∧ Ex A.mut H4 H5 ∧ ChAt K H5 A S (BB (1 + i) S) ∧ AInv win S [] ∧ Told (ms.take i) S [])
      ⟨S0 n, none, rfl, .refl _ _, hA4.monoB (by unfold BB; omega), AInv.zero win, fun y hy => absurd hy (by simp)⟩ ?_ ?_⟩
    · rintro i σ H5 hi ⟨S, v, rfl, ex5, hA5, I5, t5⟩
      rw [Int.toNat_natCast] at hi
      have hx5 := ex5 _ _ hx4 xm
      have hr5 := ex5 _ _ hr4 rm
      obtain ⟨dc5, hc5⟩ := hA5.ob
      rw [hAc] at hc5
      obtain ⟨y, hy⟩ : ∃ y, xs[i]? = some y := ⟨_, List.getElem?_eq_getElem hi⟩
      obtain ⟨p, hp, a, rfl, ha⟩ := paired_get' ps4 hy
      have ha5 : PermAt H5 a p.1 := ex5 _ _ ha (hA4.tup_ ha (fun _ z => nomatch z) (fun _ z => nomatch z))
      have htot := I5.tot24 hwn hw4
      have htotL := I5.totLn
      have hnn : n * n ≤ 60 * 60 := Nat.mul_le_mul h60 h60
      obtain ⟨ys, hl5, hyl⟩ := hA5.ln
      unfold BB at hyl
      -- self.chain.add(self.made[k], self.chain.noted(("told", k)))
      refine ⟨_, rfl, x, _, dx, _, _, rfl, hx5, T.c_Group, T.n_Group_chain, rfl, c, dc5, _, rfl, hc5, rfl, _, rfl, x, _, dx, _, _, rfl, hx5, T.c_Group, T.n_Group_made, rfl, _, rfl, r, _, _, .ref a, rfl, rfl, SqL.of hr5, by rw [Int.zero_add]; exact atI_natV hy, ?_⟩
      refine ⟨_, rfl, x, _, dx, _, _, rfl, hx5, T.c_Group, T.n_Group_chain, rfl, c, dc5, _, rfl, hc5, rfl, _, rfl, (by show 2 ≤ sizeLine; decide), fun t6 ht6 => ?_⟩
      have s6 : Same H5 (upd H5 t6 (.tup [.str "told", .int (0 + (i : Int))])) := same_upd ht6
      refine ⟨c, A.lines, A.steps, dc5, n, _, ys, rfl, s6 _ _ hc5, s6 _ _ hl5, by omega, ?_⟩
      have hA6 := hA5.same s6
      have hA7 : ChAt K (upd (upd H5 t6 (.tup [.str "told", .int (0 + (i : Int))])) A.lines (.lst (ys ++ [.ref t6]))) A S (BB (1 + (i + 1)) S) := hA6.lines_ Ex.one upd_same (by
        rw [List.length_append, List.length_singleton]
        unfold BB
        omega)
      have ex7 : Ex A.mut H5 (upd (upd H5 t6 (.tup [.str "told", .int (0 + (i : Int))])) A.lines (.lst (ys ++ [.ref t6]))) := (Ex.of s6).trans (Ex.upd (List.mem_cons_self))
      generalize (upd (upd H5 t6 (.tup [.str "told", .int (0 + (i : Int))])) A.lines (.lst (ys ++ [.ref t6]))) = H7 at hA7 ex7
      have ha7 : PermAt H7 a p.1 := ex7 _ _ ha5 (hA5.tup_ ha5 (fun _ z => nomatch z) (fun _ z => nomatch z))
      refine ⟨n, win, A, S, 1 + (i + 1), a, _, p, ms.take i, by rw [hAc]; rfl, hA7, I5, t5, ha7, hw p (List.mem_of_getElem? hp), hwn, hw4, h60, by omega, fun H8 S' ex8 hA8 I8 t8 => ?_⟩
      refine ⟨S', _, rfl, (ex5.trans ex7).trans ex8, hA8, I8, ?_⟩
      rw [List.take_add_one, hp]
      exact t8
    · rintro σ H5 ⟨S, v, rfl, ex5, hA5, I5, t5⟩
      rw [Int.toNat_natCast, hml, List.take_length] at t5
      have hx5 := ex5 _ _ hx4 xm
      have hr5 := ex5 _ _ hr4 rm
      obtain ⟨dc5, hc5⟩ := hA5.ob
      rw [hAc] at hc5
      have tu5 : Tups H4 H5 := fun b xs q => ex5 _ _ q (hA4.tup_ q (fun _ z => nomatch z) (fun _ z => nomatch z))
      refine ⟨_, rfl, x, _, dx, _, _, rfl, hx5, T.c_Group, T.n_Group_chain, rfl, c, _, dc5, _, _, rfl, hc5, T.c_Chain, T.n_Chain_steps, chainF_steps _ _ _, A.steps, rfl, ⟨_, SqL.of hA5.sl⟩, fun D hD => lc_list (K := K) (a := A.steps) (xs := A.st.map fun z => V.ref z.1)
        (fun i H6 => ∃ zs, zs.length ≤ i ∧ Same H5 H6 ∧ H6 D = some (.lst zs)) ⟨[], Nat.le_refl _, same_upd hD, upd_same⟩ (fun i H6 _ ⟨_, _, e, _⟩ => SqL.of (e _ _ hA5.sl)) ?_ ?_⟩
      · rintro i y H6 hi ⟨zs, hz, sm, hDz⟩
        obtain ⟨⟨sx, d, m⟩, hs, rfl⟩ := map_get hi
        have hsn : i < n := by
          have q := (List.getElem?_eq_some_iff.mp hs).1
          rw [hA5.len] at q
          exact q
        obtain ⟨st, hst⟩ : ∃ st, S[i]? = some st := ⟨_, List.getElem?_eq_getElem (by rw [hA5.lenS]; exact hsn)⟩
        obtain ⟨dx', hx'⟩ := (hA5.st _ _ _ _ hs).ob
        obtain ⟨kvs, hd, _⟩ := hA5.lf _ _ _ _ _ hs hst
        refine ⟨rfl, _, rfl, sx, _, dx', _, _, rfl, sm _ _ hx', T.c_Step, T.n_Step_lifts, stepF_lifts _ _ _, d, kvs, rfl, sm _ _ hd, _, _, rfl, rfl, _, rfl, ?_⟩
        have keep : ∀ (zs' : List V), Same H5 (upd H6 D (.lst zs')) := fun zs' b o e => by
          rw [upd_ne (ne_of_none e hD)]
          exact sm _ _ e
        refine ite2 (fun _ => ⟨_, rfl, zs, hDz, ?_, zs ++ [.ref sx], ?_, keep _, upd_same⟩) (fun _ => ⟨zs, by omega, sm, hDz⟩)
        · rw [sizeLine_eq]
          omega
        · rw [List.length_append, List.length_singleton]
          omega
      · rintro H6 ⟨zs, _, sm, hDz⟩
        have hx6 := sm _ _ hx5
        refine ⟨_, rfl, x, _, dx, _, rfl, hx6, T.c_Group, T.n_Group_steps, (by show 3 < 1000; decide), ?_⟩
        have e7 : putF "steps" (.ref D) [("made", .ref r), ("many", V.int (n : Int)), ("chain", .ref c)] = groupF r n c D := rfl
        rw [e7]
        have old7 : ∀ b o, H6 b = some o → b ≠ x → (upd H6 x (.ins (He.ga K "Group") dx (groupF r n c D))) b = some o := fun b o e hb => by rw [upd_ne hb]; exact e
        have tu7 : Tups H6 (upd H6 x (.ins (He.ga K "Group") dx (groupF r n c D))) := Tups.upd hx6 fun _ z => by cases z
        refine k _ (fun b o e hb => ?_) ⟨dx, r, D, xs, A, S, _, by rw [hAc]; exact upd_same, old7 _ _ (sm _ _ hr5) hrx, ps4.tups ((tu5.trans (.same sm)).trans tu7), by omega, (hA5.same sm).ins_ hx6 ?_ ?_ old7, fun i z hz => (I5.ok _ _ hz).self, fun g hg => I5.all_sift t5 hg⟩
        · have bm : b ∉ A.mut := fun z => by
            have q := old02 b o e hb
            rw [free2 b z] at q
            cases q
          exact old7 _ _ (sm _ _ (ex5 _ _ (old24 _ _ (old02 b o e hb) hb) bm)) hb
        · exact fun n a b z => absurd (List.cons.inj z).1 (fun q => absurd (Prod.mk.inj q).1 (by decide +kernel))
        · exact fun n a b z => absurd (List.cons.inj z).1 (fun q => absurd (Prod.mk.inj q).1 (by decide +kernel))
/-! ### told, has -/
def spTold (K : PySem.W.Frag) : Sp := fun vs H Q _ => ∃ (n : Nat) (x : Addr) (ms : List (Pn n)), vs = [.ref x] ∧ GrAt K H x ms ∧ ∀ H' l xs, Same H H' → H' l = some (.lst xs) → PsRel H' xs ms → H l = none → Q (.ref l) H'
theorem scTold : FnScope ["self"] ["self"] (defScope sGroupTold) := ⟨rfl, rfl, rfl, by decide +kernel, rfl, by decide +kernel, by decide +kernel⟩
theorem me_told (T : Tx K mg) : Me P w K mg base 1 (He.ga K "Group") "told" ["self"] (spTold K) := by
  obtain ⟨fd, F⟩ := T.d_GroupTold
  refine ⟨fd, _, T.c_Group, T.m_Group_told, F.bindsN fun _ _ _ _ _ _ us hl => match us, hl with | [_], _ => rfl, F.ok scTold (fun vs H Q E h => ?_) (fun cdv A0 outer s H vs Q E hr h => ?_)⟩
  · obtain ⟨n, x, ms, rfl, _⟩ := h
    rfl
  · obtain ⟨n, x, ms, rfl, G, k⟩ := h
    obtain ⟨dx, r, st, xs, A, S, B, hx, hr', hps, _⟩ := G.ex
    refine ⟨_, PSs.nox (pss_one (ps_ret (pe_callTy call_list_of rfl T.f_list boot_list (pa_cons (pe_fld (pv 0) rfl) pa_nil)))), ?_⟩
    exact ⟨_, rfl, x, _, dx, _, _, rfl, hx, T.c_Group, T.n_Group_made, groupF_made _ _ _ _, r, xs, rfl, .inl (SqL.of hr'), fun l hl => k _ l xs (same_upd hl) upd_same (hps.tups (.same (same_upd hl))) hl⟩
def spGHas (K : PySem.W.Frag) : Sp := fun vs H Q _ => ∃ (n : Nat) (x a : Addr) (ms : List (Pn n)) (g : Pn n), vs = [.ref x, .ref a] ∧ GrAt K H x ms ∧ PermAt H a g.1 ∧ Gen (fun m => m ∈ ms) g ∧ 1 ≤ n ∧ n ≤ 60 ∧ ∀ H', Same H H' → Q (.bl true) H'
theorem scGHas : FnScope ["self", "thing"] ["self", "thing"] (defScope sGroupHas) := ⟨rfl, rfl, rfl, by decide +kernel, rfl, by decide +kernel, by decide +kernel⟩
theorem me_ghas (T : Tx K mg) : Me P w K mg base 4 (He.ga K "Group") "has" ["self", "thing"] (spGHas K) := by
  obtain ⟨fd, F⟩ := T.d_GroupHas
  refine ⟨fd, _, T.c_Group, T.m_Group_has, F.bindsN fun _ _ _ _ _ _ us hl => match us, hl with | [_, _], _ => rfl, F.ok scGHas (fun vs H Q E h => ?_) (fun cdv A0 outer s H vs Q E hr h => ?_)⟩
  · obtain ⟨n, x, a, ms, g, rfl, _⟩ := h
    rfl
  · obtain ⟨n, x, a, ms, g, rfl, G, ha, hg, h1, h60, k⟩ := h
    obtain ⟨dx, r, st, xs, A, S, B, hx, hr', hps, _, hA, self, sift⟩ := G.ex
    refine ⟨_, PSs.nox (pss_one (ps_ret (pe_and (pe_fn (fn_is_of T) hr rfl (pa_cons (pv 1) (pa_cons (pe_fld (pv 0) rfl) pa_nil))) (pe_one (pe_me (me_chas T) (pe_fld (pv 0) rfl) hr (pa_cons (pv 1) pa_nil)))))), ?_⟩
    refine ⟨_, rfl, _, rfl, x, _, dx, _, _, rfl, hx, T.c_Group, T.n_Group_many, groupF_many _ _ _ _, n, a, g.1, rfl, ha, g.2, h1, h60, fun H1 s1 => ⟨true, rfl, iteT ?_⟩⟩
    obtain ⟨dc, hc⟩ := (hA.same s1).ob
    refine ⟨_, rfl, x, _, dx, _, _, rfl, s1 _ _ hx, T.c_Group, T.n_Group_chain, groupF_chain _ _ _ _, A.c, dc, _, rfl, hc, rfl, _, rfl, n, A, S, B, a, g, rfl, hA.same s1, s1 _ _ ha, h60, fun H2 s2 => ?_⟩
    have e : (rst S 0 g).1 = n := by
      rcases rst_sf S 0 g (fun i z hz => by rw [Nat.zero_add]; exact self i z hz) with ⟨q, _⟩ | ⟨_, q⟩
      · rw [q, hA.lenS, Nat.zero_add]
      · exact absurd (sift g hg) q
    show Q (.bl (decide ((rst S 0 g).1 = n))) H2
    rw [decide_eq_true e]
    exact k H2 (s1.trans s2)
end
end K43
/-! M5: the things, how permutations move them. -/
namespace K43
theorem sort_is {α : Type} {le : α → α → Bool} (tr : ∀ a b c, le a b = true → le b c = true → le a c = true) (to : ∀ a b, (le a b || le b a) = true) (an : ∀ a b, le a b = true → le b a = true → a = b)
    {l m : List α} (h : l.Perm m) (hs : l.Pairwise (fun a b => le a b = true)) : l = m.mergeSort le :=
  List.Perm.eq_of_pairwise (le := fun a b => le a b = true) (fun a b _ _ => an a b) hs (List.pairwise_mergeSort tr to m) (h.trans (List.mergeSort_perm m le).symm)
def leN (a b : Nat) : Bool := decide (a ≤ b)
theorem leN_tr (a b c : Nat) (h : leN a b = true) (k : leN b c = true) : leN a c = true := by
  unfold leN at *
  have h := of_decide_eq_true h
  have k := of_decide_eq_true k
  exact decide_eq_true (by omega)
theorem leN_to (a b : Nat) : (leN a b || leN b a) = true := by
  unfold leN
  by_cases h : a ≤ b
  · simp [h]
  · have : b ≤ a := by omega
    simp [this]
theorem leN_an (a b : Nat) (h : leN a b = true) (k : leN b a = true) : a = b := by
  unfold leN at *
  have h := of_decide_eq_true h
  have k := of_decide_eq_true k
  omega
def leP (p q : Nat × Nat) : Bool := decide (p.1 < q.1 ∨ (p.1 = q.1 ∧ p.2 ≤ q.2))
theorem leP_tr (a b c : Nat × Nat) (h : leP a b = true) (k : leP b c = true) : leP a c = true := by
  unfold leP at *
  have h := of_decide_eq_true h
  have k := of_decide_eq_true k
  exact decide_eq_true (by omega)
theorem leP_to (a b : Nat × Nat) : (leP a b || leP b a) = true := by
  unfold leP
  rw [Bool.or_eq_true, decide_eq_true_iff, decide_eq_true_iff]
  omega
theorem leP_an (a b : Nat × Nat) (h : leP a b = true) (k : leP b a = true) : a = b := by
  unfold leP at *
  have h := of_decide_eq_true h
  have k := of_decide_eq_true k
  obtain ⟨a1, a2⟩ := a
  obtain ⟨b1, b2⟩ := b
  have h1 : a1 = b1 := by
    simp only at h k
    omega
  have h2 : a2 = b2 := by
    simp only at h k
    omega
  rw [h1, h2]
def sortN (l : List Nat) : List Nat := l.mergeSort leN
def sortP (l : List (Nat × Nat)) : List (Nat × Nat) := l.mergeSort leP
theorem sortN_is {l m : List Nat} (h : l.Perm m) (hs : l.Pairwise (· ≤ ·)) : l = sortN m := sort_is leN_tr leN_to leN_an h (hs.imp fun {a b} q => decide_eq_true q)
theorem sortP_is {l m : List (Nat × Nat)} (h : l.Perm m) (hs : l.Pairwise (fun a b => leP a b = true)) : l = sortP m := sort_is leP_tr leP_to leP_an h hs
theorem sortN_perm (l : List Nat) : (sortN l).Perm l := List.mergeSort_perm l _
theorem sortP_perm (l : List (Nat × Nat)) : (sortP l).Perm l := List.mergeSort_perm l _
theorem sortN_le (l : List Nat) : (sortN l).Pairwise (· ≤ ·) := (List.pairwise_mergeSort leN_tr leN_to l).imp fun {a b} q => of_decide_eq_true q
theorem sortP_le (l : List (Nat × Nat)) : (sortP l).Pairwise (fun a b => leP a b = true) := List.pairwise_mergeSort leP_tr leP_to l
theorem sortN_congr {l m : List Nat} (h : l.Perm m) : sortN l = sortN m := sortN_is ((sortN_perm l).trans h) (sortN_le l)
theorem sortP_congr {l m : List (Nat × Nat)} (h : l.Perm m) : sortP l = sortP m := sortP_is ((sortP_perm l).trans h) (sortP_le l)

inductive Th where
  | pl (k : Nat)
  | row (l : List Nat)
  | net (l : List (Nat × Nat))
instance : DecidableEq Th := fun a b => match a, b with
  | .pl a, .pl b => if h : a = b then .isTrue (by rw [h]) else .isFalse fun e => h (Th.pl.inj e)
  | .row a, .row b => if h : a = b then .isTrue (by rw [h]) else .isFalse fun e => h (Th.row.inj e)
  | .net a, .net b => if h : a = b then .isTrue (by rw [h]) else .isFalse fun e => h (Th.net.inj e)
  | .pl _, .row _ => .isFalse fun e => nomatch e
  | .pl _, .net _ => .isFalse fun e => nomatch e
  | .row _, .pl _ => .isFalse fun e => nomatch e
  | .row _, .net _ => .isFalse fun e => nomatch e
  | .net _, .pl _ => .isFalse fun e => nomatch e
  | .net _, .row _ => .isFalse fun e => nomatch e
inductive Kd where
  | places
  | lists
  | sets
  | nets
  | turns
def ordP (p : Nat × Nat) : Nat × Nat := if p.2 < p.1 then (p.2, p.1) else p
theorem ordP_swap (a b : Nat) : ordP (a, b) = ordP (b, a) := by
  unfold ordP
  by_cases h : b < a
  · rw [if_pos h, if_neg (by show ¬ a < b; omega)]
  · by_cases q : a < b
    · rw [if_neg h, if_pos q]
    · have e : a = b := by omega
      subst e
      rfl
/-- where the list q moves a thing -/
def mvL (n : Nat) : Kd → Th → List Nat → Th
  | .places, .pl k, q => .pl (ap q k)
  | .lists, .row l, q => .row (l.map (ap q))
  | .sets, .row l, q => .row (sortN (l.map (ap q)))
  | .nets, .net l, q => .net (sortP (l.map fun p => ordP (ap q p.1, ap q p.2)))
  | .turns, .row l, q => .row (turnL n l q)
  | _, th, _ => th
/-- in its own form -/
def ThOk (n : Nat) : Kd → Th → Prop
  | .places, .pl k => k < n
  | .lists, .row l => (∀ x, x ∈ l → x < n) ∧ l.length ≤ 60
  | .sets, .row l => (∀ x, x ∈ l → x < n) ∧ l.Nodup ∧ l.Pairwise (· ≤ ·) ∧ l.length ≤ 60
  | .nets, .net l => (∀ p, p ∈ l → p.1 < p.2 ∧ p.2 < n) ∧ l.Nodup ∧ l.Pairwise (fun a b => leP a b = true) ∧ l.length ≤ 60
  | .turns, .row l => IsP n l
  | _, _ => False
section
variable {n : Nat}
def mv (k : Kd) (th : Th) (t : Pn n) : Th := mvL n k th t.1
theorem ordP_mv {n : Nat} (b : Pn n) (p : Nat × Nat) : ordP (app b (ordP p).1, app b (ordP p).2) = ordP (app b p.1, app b p.2) := by
  show ordP (app b (if p.2 < p.1 then (p.2, p.1) else p).1, app b (if p.2 < p.1 then (p.2, p.1) else p).2) = _
  by_cases h : p.2 < p.1
  · rw [if_pos h]
    exact ordP_swap _ _
  · rw [if_neg h]
theorem turnL_val (p t : Pn n) : turnL n p.1 t.1 = (t.inv * p * t).1 := by
  refine (turnL_eq t.2 (t.inv * p * t).2.len fun i hi => ?_).symm
  show app (t.inv * p * t) (app t i) = app t (app p i)
  rw [app_mul, app_mul, app_inv_app]
theorem turnL_ok {l : List Nat} (h : IsP n l) (t : Pn n) : IsP n (turnL n l t.1) := by
  have e := turnL_val ⟨l, h⟩ t
  rw [show turnL n l t.1 = turnL n (⟨l, h⟩ : Pn n).1 t.1 from rfl, e]
  exact (t.inv * ⟨l, h⟩ * t).2
theorem mv_one {k : Kd} {th : Th} (h : ThOk n k th) : mv k th (Pn.one n) = th := by
  have e1 : ∀ i, ap (Pn.one n).1 i = i := app_one
  have e2 : ∀ l : List Nat, l.map (ap (Pn.one n).1) = l := fun l => by
    have : (ap (Pn.one n).1) = id := funext e1
    rw [this, List.map_id]
  cases k <;> cases th <;> try exact h.elim
  · exact congrArg Th.pl (e1 _)
  · exact congrArg Th.row (e2 _)
  · show Th.row (sortN _) = _
    rw [e2, ← sortN_is (List.Perm.refl _) h.2.2.1]
  · rename_i l
    show Th.net (sortP _) = _
    have e3 : (l.map fun p => ordP (ap (Pn.one n).1 p.1, ap (Pn.one n).1 p.2)) = l := by
      refine (List.map_congr_left fun p hp => ?_).trans (List.map_id l)
      rw [e1, e1]
      unfold ordP
      rw [if_neg (by have := (h.1 p hp).1; show ¬ p.2 < p.1; omega)]
      rfl
    rw [e3, ← sortP_is (List.Perm.refl _) h.2.2.1]
  · rename_i l
    show Th.row (turnL n l (Pn.one n).1) = _
    have e := turnL_val (⟨l, h⟩ : Pn n) (Pn.one n)
    rw [show turnL n l (Pn.one n).1 = turnL n (⟨l, h⟩ : Pn n).1 (Pn.one n).1 from rfl, e, inv_one, one_mul, mul_one]
theorem mv_ok {k : Kd} {th : Th} (h : ThOk n k th) (t : Pn n) : ThOk n k (mv k th t) := by
  have nd : ∀ {l : List Nat}, l.Nodup → (l.map (ap t.1)).Nodup := fun {l} q =>
    List.nodup_iff_pairwise_ne.mpr (List.pairwise_map.mpr ((List.nodup_iff_pairwise_ne.mp q).imp fun {a b} hab e => hab (app_inj t e)))
  have lt : ∀ {l : List Nat}, (∀ x, x ∈ l → x < n) → ∀ x, x ∈ l.map (ap t.1) → x < n := fun {l} q x hx => by
    obtain ⟨y, hy, rfl⟩ := List.mem_map.mp hx
    exact app_lt t (q y hy)
  cases k <;> cases th <;> try exact h.elim
  · exact app_lt t h
  · rename_i l
    exact ⟨lt h.1, by rw [List.length_map]; exact h.2⟩
  · rename_i l
    refine ⟨fun x hx => lt h.1 x ((sortN_perm _).mem_iff.mp hx), (sortN_perm _).nodup_iff.mpr (nd h.2.1), sortN_le _, ?_⟩
    rw [(sortN_perm _).length_eq, List.length_map]
    exact h.2.2.2
  · rename_i l
    have o1 : ∀ p, p ∈ l → (ordP (app t p.1, app t p.2)).1 < (ordP (app t p.1, app t p.2)).2 ∧ (ordP (app t p.1, app t p.2)).2 < n := fun p hp => by
      obtain ⟨q1, q2⟩ := h.1 p hp
      have a1 := app_lt t q2
      have a2 := app_lt t (Nat.lt_trans q1 q2)
      have a3 : app t p.1 ≠ app t p.2 := fun e => by
        have := app_inj t e
        omega
      show (if app t p.2 < app t p.1 then (app t p.2, app t p.1) else (app t p.1, app t p.2)).1 < (if app t p.2 < app t p.1 then (app t p.2, app t p.1) else (app t p.1, app t p.2)).2 ∧ (if app t p.2 < app t p.1 then (app t p.2, app t p.1) else (app t p.1, app t p.2)).2 < n
      by_cases z : app t p.2 < app t p.1
      · rw [if_pos z]
        exact ⟨z, a2⟩
      · rw [if_neg z]
        refine ⟨?_, a1⟩
        show app t p.1 < app t p.2
        omega
    refine ⟨fun p hp => ?_, (sortP_perm _).nodup_iff.mpr ?_, sortP_le _, ?_⟩
    · obtain ⟨q, hq, rfl⟩ := List.mem_map.mp ((sortP_perm _).mem_iff.mp hp)
      exact o1 q hq
    · refine List.nodup_iff_pairwise_ne.mpr (List.pairwise_map.mpr ((List.nodup_iff_pairwise_ne.mp h.2.1).imp_of_mem fun {a b} ha hb hab e => hab ?_))
      have qa := (h.1 a ha).1
      have qb := (h.1 b hb).1
      have e : ordP (app t a.1, app t a.2) = ordP (app t b.1, app t b.2) := e
      unfold ordP at e
      simp only at e
      obtain ⟨a1, a2⟩ := a
      obtain ⟨b1, b2⟩ := b
      simp only at qa qb e ⊢
      by_cases z1 : app t a2 < app t a1 <;> by_cases z2 : app t b2 < app t b1
      · rw [if_pos z1, if_pos z2] at e
        rw [app_inj t (Prod.mk.inj e).1, app_inj t (Prod.mk.inj e).2]
      · rw [if_pos z1, if_neg z2] at e
        have u1 := app_inj t (Prod.mk.inj e).1
        have u2 := app_inj t (Prod.mk.inj e).2
        omega
      · rw [if_neg z1, if_pos z2] at e
        have u1 := app_inj t (Prod.mk.inj e).1
        have u2 := app_inj t (Prod.mk.inj e).2
        omega
      · rw [if_neg z1, if_neg z2] at e
        rw [app_inj t (Prod.mk.inj e).1, app_inj t (Prod.mk.inj e).2]
    · rw [(sortP_perm _).length_eq, List.length_map]
      exact h.2.2.2
  · exact turnL_ok h t
theorem mv_mul {k : Kd} {th : Th} (h : ThOk n k th) (a b : Pn n) : mv k (mv k th a) b = mv k th (a * b) := by
  have e1 : ∀ l : List Nat, (l.map (ap a.1)).map (ap b.1) = l.map (ap (a * b).1) := fun l => by
    rw [List.map_map]
    exact List.map_congr_left fun i _ => (app_mul a b i).symm
  cases k <;> cases th <;> try exact h.elim
  · exact congrArg Th.pl (app_mul a b _).symm
  · exact congrArg Th.row (e1 _)
  · rename_i l
    show Th.row (sortN ((sortN (l.map (ap a.1))).map (ap b.1))) = Th.row (sortN (l.map (ap (a * b).1)))
    rw [sortN_congr ((sortN_perm _).map (ap b.1)), e1]
  · rename_i l
    show Th.net (sortP ((sortP (l.map fun p => ordP (ap a.1 p.1, ap a.1 p.2))).map fun p => ordP (ap b.1 p.1, ap b.1 p.2))) = Th.net (sortP (l.map fun p => ordP (ap (a * b).1 p.1, ap (a * b).1 p.2)))
    rw [sortP_congr ((sortP_perm _).map _), List.map_map]
    refine congrArg Th.net (congrArg sortP (List.map_congr_left fun p _ => ?_))
    show ordP (app b (ordP (app a p.1, app a p.2)).1, app b (ordP (app a p.1, app a p.2)).2) = ordP (app (a * b) p.1, app (a * b) p.2)
    rw [ordP_mv, app_mul, app_mul]
  · rename_i l
    show Th.row (turnL n (turnL n l a.1) b.1) = Th.row (turnL n l (a * b).1)
    have q1 := turnL_val (⟨l, h⟩ : Pn n) a
    have q2 := turnL_val (⟨l, h⟩ : Pn n) (a * b)
    have q3 := turnL_val (a.inv * ⟨l, h⟩ * a) b
    have q1 : turnL n l a.1 = (a.inv * ⟨l, h⟩ * a).1 := q1
    have q2 : turnL n l (a * b).1 = ((a * b).inv * ⟨l, h⟩ * (a * b)).1 := q2
    rw [q1, q2, q3, inv_mul_rev, mul_assoc, mul_assoc, mul_assoc, mul_assoc, mul_assoc]
/-- the things to which a window's permutations move one are few -/
theorem few_things {w : List Nat} (hw : w.Nodup) (h4 : w.length ≤ 4) {k : Kd} {th : Th} {M : List Th} (hn : M.Nodup) (h : ∀ x, x ∈ M → ∃ g : Pn n, Win w g ∧ x = mv k th g) : M.length ≤ 24 := by
  have q := List.Nodup.length_le_of_subset hn (l₂ := (listW n w).map (mvL n k th)) fun y hy => by
    obtain ⟨g, hg, rfl⟩ := h y hy
    exact List.mem_map.mpr ⟨g.1, listW_mem hw hg, rfl⟩
  rw [List.length_map] at q
  exact Nat.le_trans q (listW_len h4)
end
end K43
/-! D2: things as data, as keys. -/
namespace K43
open PySem PySem.Spec PyProof.Rows L2
def shp : Th → Nat
  | .pl _ => 0
  | .row _ => 1
  | .net _ => 2
theorem shp_cases {C : Th → Th → Prop} {a b : Th} (h : shp a = shp b) (c1 : ∀ x y, C (.pl x) (.pl y)) (c2 : ∀ x y, C (.row x) (.row y)) (c3 : ∀ x y, C (.net x) (.net y)) : C a b := by
  cases a with
  | pl x =>
    cases b with
    | pl y => exact c1 x y
    | row y => exact nomatch (show (0 : Nat) = 1 from h)
    | net y => exact nomatch (show (0 : Nat) = 2 from h)
  | row x =>
    cases b with
    | pl y => exact nomatch (show (1 : Nat) = 0 from h)
    | row y => exact c2 x y
    | net y => exact nomatch (show (1 : Nat) = 2 from h)
  | net x =>
    cases b with
    | pl y => exact nomatch (show (2 : Nat) = 0 from h)
    | row y => exact nomatch (show (2 : Nat) = 1 from h)
    | net y => exact c3 x y
def dP (p : Nat × Nat) : PyData := .tuple [dN p.1, dN p.2]
def thD : Th → PyData
  | .pl k => dN k
  | .row l => tnat l
  | .net l => .tuple (l.map dP)
def kN (k : Nat) : NestedKey := .num (k : Int)
def kP (p : Nat × Nat) : NestedKey := .tup [kN p.1, kN p.2]
def thK : Th → NestedKey
  | .pl k => kN k
  | .row l => .tup (l.map kN)
  | .net l => .tup (l.map kP)
theorem eqv_dN (a b : Nat) : PyData.eqv (dN a) (dN b) = decide (a = b) := by
  show ((a : Int) == (b : Int)) = _
  by_cases e : a = b
  · subst e
    simp
  · rw [beq_eq_false_iff_ne.mpr (by omega), decide_eq_false e]
theorem eqv_dP (p q : Nat × Nat) : PyData.eqv (dP p) (dP q) = decide (p = q) := by
  have e : PyData.eqv (dP p) (dP q) = (PyData.eqv (dN p.1) (dN q.1) && (PyData.eqv (dN p.2) (dN q.2) && true)) := by
    show PyData.eqv (.tuple _) (.tuple _) = _
    rw [PyData.eqv]
    simp [PyData.eqvAll]
  rw [e, eqv_dN, eqv_dN]
  obtain ⟨a, b⟩ := p
  obtain ⟨c, d⟩ := q
  by_cases h1 : a = c <;> by_cases h2 : b = d
  · subst h1 h2
    simp
  · simp [h2]
  · simp [h1]
  · simp [h1]
theorem eqvAll_dP : ∀ (p q : List (Nat × Nat)), PyData.eqvAll (p.map dP) (q.map dP) = decide (p = q)
  | [], [] => by simp [PyData.eqvAll]
  | [], y :: q => by simp [PyData.eqvAll]
  | x :: p, [] => by simp [PyData.eqvAll]
  | x :: p, y :: q => by
    rw [List.map_cons, List.map_cons, PySem.W.eqv_all_cons, eqv_dP, eqvAll_dP p q]
    by_cases e : x = y
    · subst e
      simp
    · simp [e]
theorem eqv_thD {a b : Th} (h : shp a = shp b) : PyData.eqv (thD a) (thD b) = decide (a = b) := by
  refine shp_cases (C := fun a b => PyData.eqv (thD a) (thD b) = decide (a = b)) h (fun a b => ?_) (fun a b => ?_) (fun a b => ?_)
  · show PyData.eqv (dN a) (dN b) = _
    rw [eqv_dN]
    by_cases e : a = b
    · subst e
      simp
    · simp [e]
  · show PyData.eqv (tnat a) (tnat b) = _
    rw [eqv_tnat]
    by_cases e : a = b
    · subst e
      simp
    · simp [e]
  · show PyData.eqv (.tuple (a.map dP)) (.tuple (b.map dP)) = _
    rw [PyData.eqv, eqvAll_dP]
    by_cases e : a = b
    · subst e
      simp
    · simp [e]
theorem canLay_dP (p : Nat × Nat) : (dP p).canLay0 = true := by simp [dP, dN, PyData.canLay0, PyData.canLayAll0]
theorem depth_dN (k : Nat) : (dN k).depth = 0 := by simp [dN, PyData.depth]
theorem depth_dP (p : Nat × Nat) : (dP p).depth = 1 := by simp [dP, dN, PyData.depth, PyData.depthAll]
theorem canLayAll_dP : ∀ p : List (Nat × Nat), PyData.canLayAll0 (p.map dP) = true
  | [] => by simp [PyData.canLayAll0]
  | x :: p => by simp [PyData.canLayAll0, canLay_dP x, canLayAll_dP p]
theorem depthAll_dP : ∀ p : List (Nat × Nat), PyData.depthAll (p.map dP) ≤ 1
  | [] => by simp [PyData.depthAll]
  | x :: p => by
    have h1 := depthAll_dP p
    have h2 := depth_dP x
    simp only [List.map_cons, PyData.depthAll]
    omega
theorem depth_thD (a : Th) : (thD a).depth ≤ 2 := by
  cases a with
  | pl k => show (dN k).depth ≤ 2; rw [depth_dN]; omega
  | row l =>
    show PyData.depth (.tuple (l.map dN)) ≤ 2
    have := depthAll_nat l
    rw [PyData.depth]
    omega
  | net l =>
    show PyData.depth (.tuple (l.map dP)) ≤ 2
    have := depthAll_dP l
    rw [PyData.depth]
    omega
theorem canLay_thD (a : Th) : (thD a).canLay0 = true := by
  cases a with
  | pl k => simp [thD, dN, PyData.canLay0]
  | row l =>
    show PyData.canLay0 (.tuple (l.map dN)) = true
    rw [PyData.canLay0]
    exact canLayAll_nat l
  | net l =>
    show PyData.canLay0 (.tuple (l.map dP)) = true
    rw [PyData.canLay0]
    exact canLayAll_dP l
theorem shaped_thD (a : Th) : SeqAt.shaped (thD a) = true := by
  unfold SeqAt.shaped
  have := depth_thD a
  exact Bool.and_eq_true_iff.mpr ⟨canLay_thD a, decide_eq_true (by omega)⟩
theorem alikeAll_dN : ∀ p q : List Nat, PySem.W.alikeAll (p.map dN) (q.map dN) = true
  | [], q => by simp [PySem.W.alikeAll]
  | x :: p, [] => by simp [PySem.W.alikeAll]
  | x :: p, y :: q => by simp [PySem.W.alikeAll, PySem.W.alike, dN, alikeAll_dN p q]
theorem alike_dP (p q : Nat × Nat) : PySem.W.alike (dP p) (dP q) = true := by simp [dP, dN, PySem.W.alike, PySem.W.alikeAll]
theorem alikeAll_dP : ∀ p q : List (Nat × Nat), PySem.W.alikeAll (p.map dP) (q.map dP) = true
  | [], q => by simp [PySem.W.alikeAll]
  | x :: p, [] => by simp [PySem.W.alikeAll]
  | x :: p, y :: q => by simp [PySem.W.alikeAll, alike_dP x y, alikeAll_dP p q]
theorem alike_thD {a b : Th} (h : shp a = shp b) : PySem.W.alike (thD a) (thD b) = true := by
  refine shp_cases (C := fun a b => PySem.W.alike (thD a) (thD b) = true) h (fun a b => ?_) (fun a b => ?_) (fun a b => ?_)
  · simp [thD, dN, PySem.W.alike]
  · show PySem.W.alike (.tuple (a.map dN)) (.tuple (b.map dN)) = true
    rw [PySem.W.alike]
    exact alikeAll_dN a b
  · show PySem.W.alike (.tuple (a.map dP)) (.tuple (b.map dP)) = true
    rw [PySem.W.alike]
    exact alikeAll_dP a b
theorem thD_none (a : Th) : thD a ≠ .none := by cases a <;> exact fun e => nomatch e
/-! order -/
def ltT (a b : Th) : Bool := PySem.W.dataLt (thD a) (thD b)
theorem toks_dN (l : Nat) : PySem.W.keyToks (dN l) = [.inl (l : Int)] := rfl
theorem toksAll_dN_inj : ∀ p q : List Nat, PySem.W.keyToksAll (p.map dN) = PySem.W.keyToksAll (q.map dN) → p = q
  | [], [], _ => rfl
  | [], y :: q, h => by
    rw [List.map_cons, PySem.W.toks_all_cons] at h
    simp [PySem.W.keyToksAll] at h
  | x :: p, [], h => by
    rw [List.map_cons, PySem.W.toks_all_cons] at h
    simp [PySem.W.keyToksAll] at h
  | x :: p, y :: q, h => by
    rw [List.map_cons, List.map_cons, PySem.W.toks_all_cons, PySem.W.toks_all_cons, toks_dN, toks_dN] at h
    have h1 := (List.cons.inj h).2
    have h2 := List.cons.inj h1
    have e : x = y := by
      have := Sum.inl.inj h2.1
      omega
    rw [e, toksAll_dN_inj p q h2.2]
theorem toks_dP (p : Nat × Nat) : PySem.W.keyToks (dP p) = [.inl 1, .inl (p.1 : Int), .inl 1, .inl (p.2 : Int), .inl 0] := by
  show PySem.W.keyToks (.tuple [dN p.1, dN p.2]) = _
  rw [PySem.W.keyToks, PySem.W.toks_all_cons, PySem.W.toks_all_cons, toks_dN, toks_dN, PySem.W.keyToksAll]
  rfl
theorem toksAll_dP_inj : ∀ p q : List (Nat × Nat), PySem.W.keyToksAll (p.map dP) = PySem.W.keyToksAll (q.map dP) → p = q
  | [], [], _ => rfl
  | [], y :: q, h => by
    rw [List.map_cons, PySem.W.toks_all_cons] at h
    simp [PySem.W.keyToksAll] at h
  | x :: p, [], h => by
    rw [List.map_cons, PySem.W.toks_all_cons] at h
    simp [PySem.W.keyToksAll] at h
  | (a, b) :: p, (c, d) :: q, h => by
    rw [List.map_cons, List.map_cons, PySem.W.toks_all_cons, PySem.W.toks_all_cons, toks_dP, toks_dP] at h
    have h1 := (List.cons.inj (List.cons.inj h).2).2
    have h2 := List.cons.inj h1
    have h3 := List.cons.inj (List.cons.inj h2.2).2
    have h4 := (List.cons.inj h3.2).2
    have e1 : a = c := by
      have := Sum.inl.inj h2.1
      omega
    have e2 : b = d := by
      have := Sum.inl.inj h3.1
      omega
    rw [e1, e2, toksAll_dP_inj p q h4]
theorem toks_inj {a b : Th} (h : shp a = shp b) (e : PySem.W.keyToks (thD a) = PySem.W.keyToks (thD b)) : a = b := by
  refine shp_cases (C := fun a b => PySem.W.keyToks (thD a) = PySem.W.keyToks (thD b) → a = b) h (fun a b e => ?_) (fun a b e => ?_) (fun a b e => ?_) e
  · have e : ([.inl (a : Int)] : List (Int ⊕ List Nat)) = [.inl (b : Int)] := e
    have := Sum.inl.inj (List.cons.inj e).1
    have e2 : a = b := by omega
    rw [e2]
  · have e : PySem.W.keyToks (.tuple (a.map dN)) = PySem.W.keyToks (.tuple (b.map dN)) := e
    rw [PySem.W.keyToks, PySem.W.keyToks] at e
    rw [toksAll_dN_inj a b e]
  · have e : PySem.W.keyToks (.tuple (a.map dP)) = PySem.W.keyToks (.tuple (b.map dP)) := e
    rw [PySem.W.keyToks, PySem.W.keyToks] at e
    rw [toksAll_dP_inj a b e]
theorem ltT_total {a b : Th} (h : shp a = shp b) (hn : a ≠ b) (hl : ltT b a = false) : ltT a b = true := by
  cases e : ltT a b with
  | true => rfl
  | false => exact absurd (toks_inj h ((PyProof.Rows.listOrd PyProof.Rows.itemOrd).total _ _ e hl)) hn
theorem thK_inj {a b : Th} (h : shp a = shp b) (e : thK a = thK b) : a = b := by
  have n1 : ∀ p q : List Nat, p.map kN = q.map kN → p = q := fun p q => List.map_inj_right (f := kN) (fun x y e => by
    have := NestedKey.num.inj e
    omega) |>.mp
  have n2 : ∀ p q : List (Nat × Nat), p.map kP = q.map kP → p = q := fun p q => List.map_inj_right (f := kP) (fun x y e => by
    have q := List.cons.inj (NestedKey.tup.inj e)
    have q1 := NestedKey.num.inj q.1
    have q2 := NestedKey.num.inj (List.cons.inj q.2).1
    obtain ⟨x1, x2⟩ := x
    obtain ⟨y1, y2⟩ := y
    simp only at q1 q2
    have e1 : x1 = y1 := by omega
    have e2 : x2 = y2 := by omega
    rw [e1, e2]) |>.mp
  refine shp_cases (C := fun a b => thK a = thK b → a = b) h (fun a b e => ?_) (fun a b e => ?_) (fun a b e => ?_) e
  · have := NestedKey.num.inj e
    have e2 : a = b := by omega
    rw [e2]
  · rw [n1 _ _ (NestedKey.tup.inj e)]
  · rw [n2 _ _ (NestedKey.tup.inj e)]
theorem depth_kN (k : Nat) : (kN k).depth = 0 := by simp [kN, NestedKey.depth]
theorem depthAll_kN : ∀ l : List Nat, NestedKey.depthAll (l.map kN) = 0
  | [] => by simp [NestedKey.depthAll]
  | x :: l => by simp [NestedKey.depthAll, depth_kN, depthAll_kN l]
theorem depth_kP (p : Nat × Nat) : (kP p).depth = 1 := by simp [kP, kN, NestedKey.depth, NestedKey.depthAll]
theorem depthAll_kP : ∀ l : List (Nat × Nat), NestedKey.depthAll (l.map kP) ≤ 1
  | [] => by simp [NestedKey.depthAll]
  | x :: l => by
    have h1 := depth_kP x
    have h2 := depthAll_kP l
    simp only [List.map_cons, NestedKey.depthAll]
    omega
theorem depth_thK (a : Th) : (thK a).depth ≤ 8 := by
  cases a with
  | pl k => show (kN k).depth ≤ 8; rw [depth_kN]; omega
  | row l =>
    show NestedKey.depth (.tup (l.map kN)) ≤ 8
    rw [NestedKey.depth, depthAll_kN]
    omega
  | net l =>
    show NestedKey.depth (.tup (l.map kP)) ≤ 8
    have := depthAll_kP l
    rw [NestedKey.depth]
    omega
/-! things in the heap -/
def PairAt (H : Hp) (b : Addr) (p : Nat × Nat) : Prop := H b = some (.tup [nV p.1, nV p.2])
def ThAt (H : Hp) (v : V) : Th → Prop
  | .pl k => v = nV k
  | .row l => ∃ a, v = .ref a ∧ PermAt H a l
  | .net l => ∃ a bs, v = .ref a ∧ H a = some (.tup (bs.map V.ref)) ∧ Paired (PairAt H) bs l
theorem ThAt.tups {H H' : Hp} {v : V} {t : Th} (s : Tups H H') (h : ThAt H v t) : ThAt H' v t := by
  cases t with
  | pl k => exact h
  | row l => obtain ⟨a, e, q⟩ := h; exact ⟨a, e, s _ _ q⟩
  | net l => obtain ⟨a, bs, e, q, p⟩ := h; exact ⟨a, bs, e, s _ _ q, Paired.mapP p fun _ _ z => s _ _ z⟩
theorem dpAll_pairs {K : PySem.W.Frag} {H : Hp} : ∀ {bs : List Addr} {l : List (Nat × Nat)}, Paired (PairAt H) bs l → DpAll K H (bs.map V.ref) (l.map dP)
  | _, _, .nil => .nil
  | _, _, .cons h t => .cons (.tup (SqT.of h) (.cons (.int _) (.cons (.int _) .nil))) (dpAll_pairs t)
theorem ThAt.dp {K : PySem.W.Frag} {H : Hp} {v : V} {t : Th} (h : ThAt H v t) : Dp K H v (thD t) := by
  cases t with
  | pl k => rw [show v = nV k from h]; exact .int _
  | row l => obtain ⟨a, rfl, q⟩ := h; exact dp_perm q
  | net l => obtain ⟨a, bs, rfl, q, p⟩ := h; exact .tup (SqT.of q) (dpAll_pairs p)
section
variable {P : Program} {w : World} {H : Hp} {h : Heap}
theorem nestedAll_nat : ∀ {l : List Nat} {us : List Value}, Vals (l.map nV) us → NestedAll h (l.map kN) us
  | [], _, r => by
    cases r
    exact .nil
  | x :: l, _, r => by
    cases r with
    | cons q r =>
      obtain ⟨t, rfl⟩ := q
      exact .cons (.int _ t) (nestedAll_nat r)
theorem nestedAll_pairs (ok : HOk P w H h) : ∀ {bs : List Addr} {l : List (Nat × Nat)} {us : List Value}, Paired (PairAt H) bs l → Vals (bs.map V.ref) us → NestedAll h (l.map kP) us
  | _, _, _, .nil, r => by
    cases r
    exact .nil
  | _, _, _, @Paired.cons _ _ _ b p bs l hb t, r => by
    cases r with
    | cons q r =>
      cases q
      obtain ⟨_, its, rv, o, h1, h2, n, h3⟩ := (show ObjOk P w H h b (.tup [nV p.1, nV p.2]) from ok b _ hb)
      refine .cons ?_ (nestedAll_pairs ok t r)
      refine .tup (ks := [kN p.1, kN p.2]) h1 h2 h3 ?_
      have := nestedAll_nat (h := h) (l := [p.1, p.2]) rv
      simpa using this
/-- a thing that is a tuple is a key -/
theorem ThAt.is_ (ok : HOk P w H h) {a : Addr} {t : Th} (x : ThAt H (.ref a) t) : (nestedKind P w).is h (thK t) a := by
  refine ⟨?_, depth_thK t⟩
  cases t with
  | pl k => exact nomatch (show V.ref a = nV k from x)
  | row l =>
    obtain ⟨a', e, q⟩ := x
    cases e
    obtain ⟨_, its, rv, o, h1, h2, n, h3⟩ := (show ObjOk P w H h a (.tup (l.map nV)) from ok a _ q)
    exact .tup (ks := l.map kN) h1 h2 h3 (by simpa using nestedAll_nat rv)
  | net l =>
    obtain ⟨a', bs, e, q, p⟩ := x
    cases e
    obtain ⟨_, its, rv, o, h1, h2, n, h3⟩ := (show ObjOk P w H h a (.tup (bs.map V.ref)) from ok a _ q)
    exact .tup (ks := l.map kP) h1 h2 h3 (by simpa using nestedAll_pairs ok p rv)
end
end K43
/-! R2: dicts keyed by things. -/
namespace K43
open PySem PySem.Spec PyProof.Rows L2
abbrev NE : Type := NestedKey × Addr × V
def NR : List NE → List (NestedKey × Addr × Value) → Prop := Paired fun p q => p.1 = q.1 ∧ p.2.1 = q.2.1 ∧ RelV p.2.2 q.2.2
/-- a dict keyed by nested tuples -/
def DNp (P : Program) (w : World) (d : Addr) (xs : List NE) (h : Heap) : Prop :=
  xs.length ≤ sizeLine ∧ (d == sysModules) = false ∧ ∃ ys, NR xs ys ∧ ∃ o es ep, h.get? d = some o ∧ o.ExactDict ∧ o.data = .dict es ep ∧ es.toList = ys.map (entryOfKey (nestedKind P w)) ∧ (ys.map (·.1)).Nodup
def DN (P : Program) (w : World) (d : Addr) (xs : List NE) : HO := .ext (DNp P w d xs)
def addrOf : V → Addr
  | .ref a => a
  | _ => 0
def keyI : Th → Key
  | .pl k => .inl (k : Int)
  | _ => .inl 0
abbrev Ent : Type := Th × V × V
def entK (x : Ent) : Key × V := (keyI x.1, x.2.2)
def entN (x : Ent) : NE := (thK x.1, addrOf x.2.1, x.2.2)
def lkT (kvs : List Ent) (t : Th) : Option V := (kvs.find? fun x => decide (x.1 = t)).map (·.2.2)
/-- a dict of things -/
structure RD (P : Program) (w : World) (H : Hp) (d : Addr) (kvs : List Ent) (s : Nat) : Prop where
  th : ∀ x, x ∈ kvs → ThAt H x.2.1 x.1
  sh : ∀ x, x ∈ kvs → shp x.1 = s
  at_ : (H d = some (.dK (kvs.map entK)) ∧ (s = 0 ∨ kvs = [])) ∨ (H d = some (DN P w d (kvs.map entN)) ∧ s ≠ 0)
section
variable {P : Program} {w : World} {H H' : Hp} {h h' : Heap} {d : Addr} {kvs : List Ent} {s : Nat}
theorem RD.obj (r : RD P w H d kvs s) : ∃ u, H d = some u ∧ (∀ xs, u ≠ .tup xs) ∧ (∀ xs, u ≠ .lst xs) ∧ (∀ C x fs, u ≠ .ins C x fs) := by
  rcases r.at_ with ⟨e, _⟩ | ⟨e, _⟩
  · exact ⟨_, e, (fun _ z => nomatch z), (fun _ z => nomatch z), (fun _ _ _ z => nomatch z)⟩
  · exact ⟨_, e, (fun _ z => nomatch z), (fun _ z => nomatch z), (fun _ _ _ z => nomatch z)⟩
theorem RD.tups {o : HO} (r : RD P w H d kvs s) : Tups H (upd H d o) := by
  obtain ⟨u, e, h1, _⟩ := r.obj
  exact Tups.upd e h1
theorem RD.ex (r : RD P w H d kvs s) (ht : Tups H H') (hd : ∀ o, H d = some o → H' d = some o) : RD P w H' d kvs s :=
  ⟨fun x hx => (r.th x hx).tups ht, r.sh, r.at_.imp (fun ⟨e, z⟩ => ⟨hd _ e, z⟩) fun ⟨e, z⟩ => ⟨hd _ e, z⟩⟩
theorem thV {H : Hp} {v : V} {t : Th} (h : ThAt H v t) (hs : shp t ≠ 0) : ∃ a, v = .ref a := by
  cases t with
  | pl k => exact absurd rfl hs
  | row l => obtain ⟨a, e, _⟩ := h; exact ⟨a, e⟩
  | net l => obtain ⟨a, _, e, _⟩ := h; exact ⟨a, e⟩
theorem thI {H : Hp} {v : V} {t : Th} (h : ThAt H v t) (hs : shp t = 0) : ∃ k, t = .pl k ∧ v = nV k := by
  cases t with
  | pl k => exact ⟨k, rfl, h⟩
  | row l => exact nomatch (show (1 : Nat) = 0 from hs)
  | net l => exact nomatch (show (2 : Nat) = 0 from hs)
theorem lk_dK : ∀ {kvs : List Ent} {k : Nat}, (∀ x, x ∈ kvs → shp x.1 = 0) → valV (kvs.map entK) (.inl (k : Int)) = lkT kvs (.pl k)
  | [], _, _ => rfl
  | (t, v, u) :: kvs, k, h => by
    obtain ⟨k', rfl, _⟩ := thI (H := fun _ => none) (v := nV (match t with | .pl k => k | _ => 0)) (t := t) (by
      have := h _ List.mem_cons_self
      cases t with
      | pl k => rfl
      | row l => exact nomatch (show (1 : Nat) = 0 from this)
      | net l => exact nomatch (show (2 : Nat) = 0 from this)) (h _ List.mem_cons_self)
    have ih := lk_dK (kvs := kvs) (k := k) fun x hx => h x (List.mem_cons_of_mem _ hx)
    unfold lkT at ih ⊢
    rw [List.map_cons, List.find?_cons]
    unfold valV at ih ⊢
    by_cases e : k' = k
    · subst e
      simp [entK, keyI]
    · have e2 : ¬ (Th.pl k' = Th.pl k) := fun z => e (Th.pl.inj z)
      have e3 : ¬ (entK (Th.pl k', v, u)).1 = (.inl (k : Int) : Key) := fun z => e (by
        have z : (Sum.inl (k' : Int) : Key) = Sum.inl (k : Int) := z
        have := Sum.inl.inj z
        omega)
      rw [decide_eq_false e2, List.find?_cons, decide_eq_false e3]
      exact ih
theorem lk_dN : ∀ {kvs : List Ent} {ys : List (NestedKey × Addr × Value)} {t : Th}, NR (kvs.map entN) ys → (∀ x, x ∈ kvs → shp x.1 = shp t) → RelO (lkT kvs t) ((atKey ys (thK t)).map (·.2))
  | [], _, t, r, _ => by
    cases r
    exact True.intro
  | x :: kvs, _, t, r, h => by
    rw [List.map_cons] at r
    cases r with
    | @cons _ y _ ys q r =>
      have ih := lk_dN r fun z hz => h z (List.mem_cons_of_mem _ hz)
      have hx := h x List.mem_cons_self
      unfold lkT atKey at ih ⊢
      rw [List.find?_cons, List.find?_cons]
      have q1 : thK x.1 = y.1 := q.1
      by_cases e : x.1 = t
      · have e2 : y.1 = thK t := by rw [← q1, e]
        rw [decide_eq_true e, decide_eq_true e2]
        exact q.2.2
      · have e2 : ¬ y.1 = thK t := fun z => e (thK_inj hx (q1.trans z))
        rw [decide_eq_false e, decide_eq_false e2]
        exact ih
theorem dn_rd (ok : HOk P w H h) (r : RD P w H d kvs s) (hs : s ≠ 0) (e : H d = some (DN P w d (kvs.map entN))) :
    kvs.length ≤ sizeLine ∧ (d == sysModules) = false ∧ ∃ ys, NR (kvs.map entN) ys ∧ h.DictOfH (nestedKind P w) d ys := by
  obtain ⟨⟨z, hd, ys, rel, o, es, ep, h1, h2, h3, h4, h5⟩, _⟩ := (show ObjOk P w H h d (DN P w d (kvs.map entN)) from ok d _ e)
  refine ⟨by rw [List.length_map] at z; exact z, hd, ys, rel, o, es, ep, h1, h2, h3, h4, ?_, h5⟩
  have all : ∀ {l : List Ent} {m : List (NestedKey × Addr × Value)}, (∀ x, x ∈ l → ThAt H x.2.1 x.1 ∧ shp x.1 ≠ 0) → NR (l.map entN) m → ∀ y, y ∈ m → (nestedKind P w).is h y.1 y.2.1 := by
    intro l
    induction l with
    | nil =>
      intro m _ r y hy
      cases r
      exact nomatch hy
    | cons x l ih =>
      intro m hl r y hy
      rw [List.map_cons] at r
      cases r with
      | @cons _ b _ m q r =>
        rcases List.mem_cons.mp hy with rfl | hy
        · obtain ⟨t1, t2⟩ := hl x List.mem_cons_self
          obtain ⟨a, ea⟩ := thV t1 t2
          rw [ea] at t1
          have q1 : thK x.1 = y.1 := q.1
          have q2 : addrOf x.2.1 = y.2.1 := q.2.1
          rw [ea] at q2
          rw [← q1, ← q2]
          exact t1.is_ ok
        · exact ih (fun x hx => hl x (List.mem_cons_of_mem _ hx)) r y hy
  exact all (fun x hx => ⟨r.th x hx, by rw [r.sh x hx]; exact hs⟩) rel
theorem dn_new {H' : Hp} {xs : List NE} {ys : List (NestedKey × Addr × Value)} (z : xs.length ≤ sizeLine) (hd : (d == sysModules) = false) (rel : NR xs ys) (dd : h.DictOfH (nestedKind P w) d ys) : ObjOk P w H' h d (DN P w d xs) := by
  obtain ⟨o, es, ep, h1, h2, h3, h4, h5, h6⟩ := dd
  exact ⟨⟨z, hd, ys, rel, o, es, ep, h1, h2, h3, h4, h6⟩, ⟨o, h1⟩, fun ha hb x k => by
    obtain ⟨z, hd, ys, rel, o, es, ep, h1, h2⟩ := x
    exact ⟨z, hd, ys, rel, o, es, ep, k _ h1, h2⟩⟩
end
section
variable {X : Cx}
/-! in, not in -/
def rNotInT (P : Program) (w : World) : R2 := fun x y H Q => ∃ d kvs t s, y = .ref d ∧ RD P w H d kvs s ∧ kvs ≠ [] ∧ ThAt H x t ∧ shp t = s ∧ Q (.bl (!(lkT kvs t).isSome)) H
theorem op_notInT (hu : X.A.units + 16 < cLine) : OpR X (compareOp .NotIn) (rNotInT X.prog X.w) := by
  intro pins s σ H x y v u Q I rx ry h
  obtain ⟨d, kvs, t, s', rfl, r, hne, ht, hs, q⟩ := h
  obtain rfl : u = Value.ref d := ry
  rcases r.at_ with ⟨e, z⟩ | ⟨e, z⟩
  · have z : s' = 0 := z.resolve_right hne
    subst z
    obtain ⟨k, rfl, rfl⟩ := thI ht hs
    refine d_notIn (by omega) I (DGet.k (k := .inl (k : Int)) e) (show RelV (kV (.inl (k : Int))) v from rx) fun s1 I1 => ⟨.bl _, H, I1, rfl, ?_⟩
    rw [lk_dK r.sh]
    exact q
  · obtain ⟨a, rfl⟩ := thV ht (by rw [hs]; exact z)
    obtain rfl : v = Value.ref a := rx
    obtain ⟨_, hd, ys, rel, dd⟩ := dn_rd I.hok r z e
    have l := lk_dN rel fun x hx => (r.sh x hx).trans hs.symm
    refine wpAny_notIn_heap (show X.A.units + 1 + 8 < cLine by omega) (ht.is_ I.hok) hd dd ⟨.bl _, H, I.tok _, rfl, ?_⟩
    have l2 := l.isSome_eq
    rw [Option.isSome_map] at l2
    rw [← l2]
    exact q
/-! d[t] -/
def tGetT (P : Program) (w : World) (td ty : TE) : TE := fun σ H Q => td σ H fun x H1 => ty σ H1 fun y H2 => ∃ d kvs t s v, x = .ref d ∧ RD P w H2 d kvs s ∧ kvs ≠ [] ∧ ThAt H2 y t ∧ shp t = s ∧ lkT kvs t = some v ∧ Q v H2
theorem RD.typeIs {pins : List (Addr × Obj)} {σ : L2.St} {H : Hp} {st : Shared} {d : Addr} {kvs : List Ent} {s : Nat} (I : Inv X pins σ H st) (r : RD X.prog X.w H d kvs s) : st.TypeIs (.ref d) "dict" := by
  rcases r.at_ with ⟨e, z⟩ | ⟨e, z⟩
  · obtain ⟨_, _, vs, _, dd⟩ := dk_of I.hok e
    exact dd.typeIs
  · obtain ⟨_, _, ys, _, dd⟩ := dn_rd I.hok r z e
    exact dd.typeIs
theorem pe_getT {o i : Expr} {pos : Pos} {td ty : TE} (hu : X.A.units + 16 < cLine) (ho : PE X o td) (hi : PE X i ty) (hs : NoSl i) : PE X (.Subscript o i pos) (tGetT X.prog X.w td ty) := by
  refine ⟨fun pins s σ H Q I h => ?_⟩
  refine subD_of PySem.F.slot_dict_getitem.lookup hs (thn (ho.run pins s σ H _ I h) fun u s1 ⟨x, H1, I1, rx, q1⟩ => thn (hi.run pins s1 σ H1 _ I1 q1) fun iv s2 ⟨y, H2, I2, ry, d, kvs, t, s', v, ex, r, hne, ht, hs, hl, q2⟩ => ?_)
  subst ex
  obtain rfl : u = Value.ref d := rx
  refine ⟨r.typeIs I2, ?_⟩
  rcases r.at_ with ⟨e, z⟩ | ⟨e, z⟩
  · have z : s' = 0 := z.resolve_right hne
    subst z
    obtain ⟨k, rfl, rfl⟩ := thI ht hs
    have g := DGet.k (k := .inl (k : Int)) e
    rw [lk_dK r.sh, hl] at g
    exact d_getItem (by omega) I2 g (show RelV (kV (.inl (k : Int))) iv from ry) fun w' s3 I3 rw' => ⟨v, H2, I3, rw', q2⟩
  · obtain ⟨a, rfl⟩ := thV ht (by rw [hs]; exact z)
    obtain rfl : iv = Value.ref a := ry
    obtain ⟨_, hd, ys, rel, dd⟩ := dn_rd I2.hok r z e
    have l := lk_dN rel fun x hx => (r.sh x hx).trans hs.symm
    rw [hl] at l
    obtain ⟨w', hw, rw'⟩ := RelO.some_of l
    obtain ⟨p, hp, hp2⟩ := Option.map_eq_some_iff.mp hw
    refine wpAny_getItem_heap (show X.A.units + 1 + 8 < cLine by omega) (ht.is_ I2.hok) dd hp ?_
    rw [hp2]
    exact ⟨v, H2, I2.tok _, rw', q2⟩
/-! d[t] = v, t new -/
def sPutT (P : Program) (w : World) (td ty tv : TE) : TS := fun D σ H => tv σ H fun v H1 => td σ H1 fun x H2 => ty σ H2 fun y H3 => ∃ d kvs t s, x = .ref d ∧ RD P w H3 d kvs s ∧ ThAt H3 y t ∧ shp t = s ∧ lkT kvs t = none ∧ kvs.length ≤ 1000 ∧
  ∀ o, RD P w (upd H3 d o) d (kvs ++ [(t, y, v)]) s → D.nx σ (upd H3 d o)
theorem putK_app {kvs : List (Key × V)} {k : Key} {v : V} (h : valV kvs k = none) : putK kvs k v = kvs ++ [(k, v)] := by
  unfold putK
  rw [valV_any, h]
  rfl
theorem storedH_app {xs : List (NestedKey × Addr × Value)} {k : NestedKey} {a : Addr} {v : Value} (h : atKey xs k = none) : storedH xs k a v = xs ++ [(k, a, v)] := storedH_new h a v
theorem ps_putT {o i value : Expr} {pos pos' : Pos} {td ty tv : TE} (hu : X.A.units + 16 < cLine) (ho : PE X o td) (hi : PE X i ty) (hv : PE X value tv) (hs : swapsWith value (some (.Subscript o i pos')) pos.line X.env = pure false) :
    PS X (.Assign [.Subscript o i pos'] value pos) (sPutT X.prog X.w td ty tv) := by
  refine ⟨fun pins s σ H D I h => ?_⟩
  refine wpAny_Assign_Subscript (thn (hv.run pins s σ H _ I h) fun r s1 ⟨v, H1, I1, rv, q1⟩ => thn (ho.run pins s1 σ H1 _ I1 q1) fun u s2 ⟨x, H2, I2, rx, q2⟩ => thn (hi.run pins s2 σ H2 _ I2 q2) fun iv s3 ⟨y, H3, I3, ry, d, kvs, t, s', ex, rd, ht, hs, hl, hz, q3⟩ => ?_) hs
  subst ex
  obtain rfl : u = Value.ref d := rx
  have hz2 : (kvs ++ [(t, y, v)]).length ≤ sizeLine := by
    rw [List.length_append, List.length_singleton, sizeLine_eq]
    omega
  have sh2 : ∀ z, z ∈ kvs ++ [(t, y, v)] → shp z.1 = s' := fun z hz => by
    rcases List.mem_append.mp hz with q | q
    · exact rd.sh z q
    · rw [List.mem_singleton.mp q]
      exact hs
  have th2 : ∀ o, ∀ z, z ∈ kvs ++ [(t, y, v)] → ThAt (upd H3 d o) z.2.1 z.1 := fun o z hz => by
    rcases List.mem_append.mp hz with q | q
    · exact (rd.th z q).tups rd.tups
    · rw [List.mem_singleton.mp q]
      exact ht.tups rd.tups
  by_cases z0 : s' = 0
  · subst z0
    obtain ⟨k, rfl, rfl⟩ := thI ht hs
    rcases rd.at_ with ⟨e, _⟩ | ⟨_, z⟩
    · have lv : valV (kvs.map entK) (.inl (k : Int)) = none := by rw [lk_dK rd.sh]; exact hl
      refine d_setItem (by omega) I3 (DPut.k (k := .inl (k : Int)) (v := v) e (by rw [List.length_map, sizeLine_eq]; omega)) (show RelV (kV (.inl (k : Int))) iv from ry) rv fun s4 I4 => ⟨σ, _, I4, ?_⟩
      refine q3 _ ⟨th2 _, sh2, .inl ⟨?_, .inl rfl⟩⟩
      rw [upd_same, putK_app lv, List.map_append]
      rfl
    · exact absurd rfl z
  · obtain ⟨a, rfl⟩ := thV ht (by rw [hs]; exact z0)
    obtain rfl : iv = Value.ref a := ry
    have fin : ∀ (hd : (d == sysModules) = false) (ys : List (NestedKey × Addr × Value)), NR (kvs.map entN) ys → s3.heap.DictOfH (nestedKind X.prog X.w) d ys → Mut (H3 d) →
        wpAny (model X.prog X.w) X.A (setItem (.ref d) (.ref a) r) (fun _ s' => ∃ σ' H', Inv X pins σ' H' s' ∧ D.nx σ' H') X.xe s3 := fun hd ys rel dd mu => by
      have l := lk_dN (t := t) rel fun x hx => (rd.sh x hx).trans hs.symm
      rw [hl] at l
      have hn : atKey ys (thK t) = none := Option.map_eq_none_iff.mp (RelO.none_of l)
      have hyl : ys.length = kvs.length := by rw [← Paired.length rel, List.length_map]
      refine wpAny_setItem_heap (hsz := by rw [hyl, sizeLine_eq]; omega) (show X.A.units + 1 + 8 < cLine by omega) (ht.is_ I3.hok) dd fun h' dd' hs' => ?_
      rw [storedH_app hn] at dd'
      have rel2 : NR ((kvs ++ [(t, V.ref a, v)]).map entN) (ys ++ [(thK t, a, r)]) := by
        rw [List.map_append]
        exact Paired.snoc rel ⟨rfl, rfl, rv⟩
      have he : ∃ q, h'.get? d = some q := let ⟨q, _, _, hq, _⟩ := dd'; ⟨q, hq⟩
      refine ⟨σ, _, d_write I3 mu hs' he (dn_new (by rw [List.length_map]; exact hz2) hd rel2 dd'), q3 _ ⟨th2 _, sh2, .inr ⟨upd_same, z0⟩⟩⟩
    rcases rd.at_ with ⟨e, z⟩ | ⟨e, _⟩
    · have z : kvs = [] := z.resolve_left z0
      subst z
      obtain ⟨_, hd, vs, rel, dd⟩ := dk_of I3.hok e
      cases rel
      obtain ⟨o, es, ep, h1, h2, h3, h4, h5, _⟩ := dd
      have e0 : es.toList = [] := by
        cases q : es.toList with
        | nil => rfl
        | cons y ys =>
          rw [q] at h5
          exact nomatch h5
      exact fin hd [] .nil ⟨o, es, ep, h1, h2, h3, e0, (fun _ hx => nomatch hx), List.nodup_nil⟩ (by rw [e]; exact True.intro)
    · obtain ⟨_, hd, ys, rel, dd⟩ := dn_rd I3.hok rd z0 e
      exact fin hd ys rel dd (by rw [e]; exact True.intro)
end
end K43
/-! R3: sorted of things, pairs, ints; list(d), sorted(d), displays. -/
namespace K43
open PySem PySem.Spec PyProof.Rows L2
open PySem.W (dataLe dataLt SortsAt AllAlike Sortable dataKind EachIs)
theorem each_of_vals {β : Type} {h : Heap} : ∀ {zs : List (V × β)} {vs : List Value}, Vals (zs.map (·.1)) vs → EachIs (fun v (z : V × β) => RelV z.1 v) vs zs
  | [], _, r => by
    cases r
    exact .nil
  | z :: zs, _, r => by
    rw [List.map_cons] at r
    cases r with
    | cons q r => exact .cons q (each_of_vals (h := h) r)
theorem vals_of_each {β : Type} : ∀ {vs : List Value} {zs : List (V × β)}, EachIs (fun v (z : V × β) => RelV z.1 v) vs zs → Vals (zs.map (·.1)) vs
  | _, _, .nil => .nil
  | _, _, .cons q r => .cons q (vals_of_each r)
theorem sorts_nil {prog : Program} {w : World} {A : Around} {s : Shared} {v : Value} (r : ∃ as, Reads s.heap v (.tuple []) as) (hu : A.units < cLine) : SortsAt prog w A s (dataKind s.heap [.tuple []]) [v] := by
  have hal : AllAlike [.tuple []] := fun d hd d' hd' => by
    rw [List.mem_singleton.mp hd, List.mem_singleton.mp hd']
    simp [PySem.W.alike, PySem.W.alikeAll]
  obtain ⟨as, r⟩ := r
  refine ⟨fun x hx => ?_, tuples' true, ?_, fun h2 => absurd h2 (by simp)⟩
  · rw [List.mem_singleton.mp hx]
    exact ⟨_, PySem.W.dataKind_some hal (List.mem_singleton.mpr rfl) r⟩
  · intro E x y a b Q ha hb hq
    obtain ⟨d, as, hd, ra, rfl⟩ := PySem.W.dataKind_inv ha
    obtain ⟨d', as', hd', rb, rfl⟩ := PySem.W.dataKind_inv hb
    have e1 := List.mem_singleton.mp hd
    have e2 := List.mem_singleton.mp hd'
    subst e1 e2
    have hq' : Q (dataLt (.tuple []) (.tuple [])) s := hq
    rw [PySem.W.dataLt_tuple] at hq'
    cases ra with
    | @tuple l o xs n _ _ h1 h2 h3 h4 =>
      cases rb with
      | @tuple l' o' xs' n' _ _ k1 k2 k3 k4 =>
        have n1 : xs.size = 0 := by simpa using SeqAt.ReadsAll.length _ _ _ h4
        have n2 : xs'.size = 0 := by simpa using SeqAt.ReadsAll.length _ _ _ k4
        refine PySem.W.kat_lt h1 h3 k1 k3 (PySem.W.katLex_alike [] [] 0 _ _ _ _ h4 k4 (by simp [PySem.W.alikeAll]) (by simp [PyData.depthAll]; exact hu) (fun _ _ _ _ _ ex => nomatch ex) (by rw [n1, n2]; rfl) hq')
section
variable {X : Cx}
/-- sorted: what is collected is data -/
theorem sorted_tail {β : Type} {pins : List (Addr × Obj)} {σ : L2.St} {H : Hp} {s : Shared} {v : Value} {zs : List (V × β)} {Q : VK} (enc : β → PyData) (I : Inv X pins σ H s)
    (col : ∀ {E : Value → Shared → Prop} {R : List Value → Shared → Prop}, (∀ h' tk vs, (∀ b o, s.heap.get? b = some o → h'.get? b = some o) → Vals (zs.map (·.1)) vs → R vs { s with heap := h', toks := tk }) → wpAny (model X.prog X.w) X.A.in1 (collect v) R E s)
    (hd : ∀ z, z ∈ zs → Dp X.K H z.1 (enc z.2)) (hal : AllAlike (zs.map fun z => enc z.2)) (hk : Sortable (zs.map fun z => enc z.2) ∨ (zs.map fun z => enc z.2) = [.tuple []]) (hL : zs.length ≤ 1000) (hdp : ∀ z, z ∈ zs → (enc z.2).depth ≤ 8) (hu : X.A.units + 64 < cLine)
    (q : ∀ p, H p = none → Q (.ref p) (upd H p (.lst ((zs.mergeSort (dataLe false fun z => enc z.2)).map (·.1))))) :
    wpAny (model X.prog X.w) X.A (call (.builtin "sorted") [v]) (EP X pins σ Q) X.xe s := by
  refine Calls.call_function_entry PyProof.Rows.kind_sorted PyProof.Rows.plain_sorted PyProof.Rows.entry_sorted (PyProof.Rows.args_sorted1 _) ?_
  unfold Builtin.«sorted»
  refine wpAny_bind (m := checkCount "sorted" 1 1 _) (wpAny_pure ?_)
  refine wpAny_bind (col fun h' tk vs hkp hr => ?_)
  have hvl : vs.length = zs.length := by rw [← hr.length, List.length_map]
  have hvL : vs.length ≤ sizeLine := by rw [hvl, sizeLine_eq]; omega
  have I1 : Inv X pins σ H { s with heap := h', toks := tk } := I.kept hkp
  refine wpAny_bind (wpAny_newList ?_ hvL)
  have hoL : (h'.push (seqObj "list" vs.toArray 0)).get? h'.objs.size = some (seqObj "list" vs.toArray 0) := Heap.get?_push_size _ rfl
  show wpAny _ _ _ _ _ { s with heap := h'.push (seqObj "list" vs.toArray 0), toks := tk }
  have ev : EachIs (fun v (z : V × β) => RelV z.1 v) vs zs := each_of_vals (h := h') hr
  have old : ∀ b o, h'.get? b = some o → (PySem.W.sortingHeap (h'.push (seqObj "list" vs.toArray 0)) h'.objs.size vs).get? b = some o := fun b o e =>
    PySem.W.sortingHeap_old (Nat.ne_of_lt (Heap.lt_size e)) (Heap.get?_push_of_some _ e)
  have er : EachIs (fun v (z : V × β) => ∃ as, Reads (PySem.W.sortingHeap (h'.push (seqObj "list" vs.toArray 0)) h'.objs.size vs) v (enc z.2) as) vs zs :=
    (PySem.W.each_mem ev).mono fun v z ⟨rz, hz⟩ => by
      obtain ⟨as, r⟩ := Dp.reads I1 (enc z.2) z.1 v (hd z hz) rz
      exact ⟨as, PyProof.Rows.Reads.keeps old r⟩
  have er2 := PySem.W.each_map (R := fun v d => ∃ as, Reads (PySem.W.sortingHeap (h'.push (seqObj "list" vs.toArray 0)) h'.objs.size vs) v d as) (fun z : V × β => enc z.2) er
  have un : X.A.in1.in1.units = X.A.units + 2 := rfl
  have S : SortsAt X.prog X.w X.A.in1.in1 { s with heap := PySem.W.sortingHeap (h'.push (seqObj "list" vs.toArray 0)) h'.objs.size vs, toks := tk } (dataKind (PySem.W.sortingHeap (h'.push (seqObj "list" vs.toArray 0)) h'.objs.size vs) (zs.map fun z => enc z.2)) vs := by
    rcases hk with hk | hk
    · refine SortsAt.data (s := { s with heap := PySem.W.sortingHeap (h'.push (seqObj "list" vs.toArray 0)) h'.objs.size vs, toks := tk }) er2 hal hk fun d hd' => ?_
      obtain ⟨z, hz, rfl⟩ := List.mem_map.mp hd'
      have := hdp z hz
      omega
    · rw [hk] at er2 ⊢
      cases er2 with
      | cons r t =>
        cases t
        exact sorts_nil (s := { s with heap := _, toks := tk }) r (by omega)
  refine wpAny_bind (wpAny_holding (wpAny_call_entry PyProof.Rows.slot_list_sort ⟨_, hoL, rfl⟩ PyProof.Rows.entry_list_sort
    (PySem.W.list_sort_vals (s := { s with heap := h'.push (seqObj "list" vs.toArray 0), toks := tk }) hoL S hvL ⟨_, rfl, ?_⟩) (PyProof.Rows.args_list_sort _)))
  have out := PySem.W.sortVals_data (h' := PySem.W.sortingHeap (h'.push (seqObj "list" vs.toArray 0)) h'.objs.size vs) (R := fun v (z : V × β) => RelV z.1 v) (enc := fun z : V × β => enc z.2) false ev er hal
  obtain ⟨e', he'⟩ := PyProof.Rows.sortedHeap_at (vs := vs) (out := (PySem.W.sortVals (dataKind (PySem.W.sortingHeap (h'.push (seqObj "list" vs.toArray 0)) h'.objs.size vs) (zs.map fun z => enc z.2)) false vs vs).toArray) hoL
  have rv := vals_of_each out
  refine wpAny_pure ⟨_, rfl, .ref h'.objs.size, upd H h'.objs.size (.lst ((zs.mergeSort (dataLe false fun z => enc z.2)).map (·.1))), I1.laid (t' := tk) (fun b u e => ?_) (Nat.le_refl _)
    (show ObjOk X.prog X.w _ _ _ (.lst ((zs.mergeSort (dataLe false fun z => enc z.2)).map (·.1))) from ⟨?_, _, e', rv, he'⟩), rfl, q _ (I1.hok.fresh (Nat.le_refl _))⟩
  · have hb : b < h'.objs.size := Heap.lt_size e
    rw [PyProof.Rows.sortedHeap_old (Nat.ne_of_lt hb) (by rw [size_push']; exact Nat.lt_succ_of_lt hb)]
    exact Heap.get?_push_of_some _ e
  · rw [List.length_map, List.length_mergeSort, sizeLine_eq]
    omega
end
end K43
/-! R4: the calls. -/
namespace K43
open PySem PySem.Spec PyProof.Rows L2
open PySem.W (dataLe dataLt AllAlike Sortable)
theorem sort_map {α β : Type} {r : α → α → Bool} {s : β → β → Bool} (f : α → β) {l : List α} (h : ∀ a ∈ l, ∀ b ∈ l, r a b = s (f a) (f b)) : (l.mergeSort r).map f = (l.map f).mergeSort s := PySem.W.sort_maps f h
theorem pairs_at {H : Hp} : ∀ {bs : List Addr} {ps : List (Nat × Nat)}, Paired (PairAt H) bs ps → ∃ zs : List (V × (Nat × Nat)), zs.map (·.1) = bs.map V.ref ∧ zs.map (·.2) = ps ∧ ∀ z, z ∈ zs → ∃ b, z.1 = .ref b ∧ PairAt H b z.2
  | _, _, .nil => ⟨[], rfl, rfl, fun _ h => nomatch h⟩
  | _, _, @Paired.cons _ _ _ b p bs ps h t => by
    obtain ⟨zs, e1, e2, e3⟩ := pairs_at t
    refine ⟨(.ref b, p) :: zs, by rw [List.map_cons, e1]; rfl, by rw [List.map_cons, e2], fun z hz => ?_⟩
    rcases List.mem_cons.mp hz with rfl | hz
    · exact ⟨b, rfl, h⟩
    · exact e3 z hz
theorem at_pairs {H : Hp} : ∀ {zs : List (V × (Nat × Nat))}, (∀ z, z ∈ zs → ∃ b, z.1 = .ref b ∧ PairAt H b z.2) → ∃ bs : List Addr, zs.map (·.1) = bs.map V.ref ∧ Paired (PairAt H) bs (zs.map (·.2))
  | [], _ => ⟨[], rfl, .nil⟩
  | z :: zs, h => by
    obtain ⟨bs, e, p⟩ := at_pairs fun y hy => h y (List.mem_cons_of_mem _ hy)
    obtain ⟨b, e1, q⟩ := h z List.mem_cons_self
    exact ⟨b :: bs, by rw [List.map_cons, List.map_cons, e, e1], .cons q p⟩
theorem le_dP (p q : Nat × Nat) : (!dataLt (dP q) (dP p)) = leP p q := by
  have e : dataLt (dP q) (dP p) = decide ((q.1 : Int) < p.1 ∨ ((q.1 : Int) = p.1 ∧ (q.2 : Int) < p.2)) := PySem.W.dataLt_ii _ _ _ _
  rw [e]
  unfold leP
  by_cases h : p.1 < q.1 ∨ (p.1 = q.1 ∧ p.2 ≤ q.2)
  · rw [decide_eq_true h, decide_eq_false (by omega)]
    rfl
  · rw [decide_eq_false h, decide_eq_true (by omega)]
    rfl
theorem alike_dPs (ps : List (Nat × Nat)) : AllAlike (ps.map dP) := PySem.W.AllAlike.of alike_dP
theorem alike_dNs (ps : List Nat) : AllAlike (ps.map dN) := PySem.W.AllAlike.of fun a b => by simp [dN, PySem.W.alike]
section
variable {X : Cx}
/-! sorted(list of pairs) -/
def rSortedPr (K : PySem.W.Frag) : List V → Hp → VK → Prop := fun vs H Q => ∃ (l : Addr) (bs : List Addr) (ps : List (Nat × Nat)), vs = [.ref l] ∧ SqL K H l (bs.map V.ref) ∧ Paired (PairAt H) bs ps ∧ ps.length ≤ 1000 ∧
  ∀ (p : Addr) (cs : List Addr), H p = none → Paired (PairAt H) cs (sortP ps) → Q (.ref p) (upd H p (.lst (cs.map V.ref)))
theorem cr_sortedPr (hu : X.A.units + 64 < cLine) : CallR X (.builtin "sorted") (rSortedPr X.K) := by
  intro pins s σ H xs us Q I r h
  obtain ⟨l, bs, ps, rfl, hl, hp, hL, q⟩ := h
  rw [Vals.ref1 r]
  obtain ⟨its, rv, pl, hz⟩ := I.list hl
  obtain ⟨zs, e1, e2, e3⟩ := pairs_at hp
  have hzl : zs.length = ps.length := by rw [← e2, List.length_map]
  refine sorted_tail (zs := zs) dP I (fun {E R} k => collect_list pl.isList (k _ s.toks _ (fun b o e => ?_) (by rw [e1]; exact rv)) (by rw [← rv.length]; exact hz)) (fun z hz => ?_) ?_ ?_ (by omega) (fun z hz => by rw [depth_dP]; omega) hu fun p hp' => ?_
  · exact (Heap.get?_update_ne _ _ _ _ (Nat.ne_of_lt (Heap.lt_size e))).trans (Heap.get?_push_of_some _ e)
  · obtain ⟨b, e, hb⟩ := e3 z hz
    rw [e]
    exact .tup (SqT.of hb) (.cons (.int _) (.cons (.int _) .nil))
  · have : (zs.map fun z => dP z.2) = ps.map dP := by rw [← e2, List.map_map]; rfl
    rw [this]
    exact alike_dPs ps
  · refine .inl (.inl fun d hd => ?_)
    obtain ⟨z, _, rfl⟩ := List.mem_map.mp hd
    exact ⟨_, _, rfl⟩
  · obtain ⟨cs, f1, f2⟩ := at_pairs (H := H) (zs := zs.mergeSort (dataLe false fun z => dP z.2)) fun z hz => e3 z (List.mem_mergeSort.mp hz)
    rw [f1]
    refine q p cs hp' ?_
    have f3 : (zs.mergeSort (dataLe false fun z => dP z.2)).map (·.2) = sortP ps := by
      have q := sort_map (r := dataLe false fun z : V × (Nat × Nat) => dP z.2) (s := leP) (fun z : V × (Nat × Nat) => z.2) (l := zs) fun a _ b _ => le_dP a.2 b.2
      rw [e2] at q
      exact q
    rw [f3] at f2
    exact f2
/-! sorted(tuple of nats) -/
def rSortedNt (K : PySem.W.Frag) : List V → Hp → VK → Prop := fun vs H Q => ∃ (a : Addr) (l : List Nat), vs = [.ref a] ∧ PermAt H a l ∧ l.length ≤ 1000 ∧ ∀ p : Addr, H p = none → Q (.ref p) (upd H p (.lst ((sortN l).map nV)))
theorem dataLe_nat (a b : Nat) : dataLe false (fun z : V × Nat => dN z.2) (nV a, a) (nV b, b) = leN a b := by
  show (!dataLt (dN b) (dN a)) = leN a b
  unfold dN
  rw [PySem.W.dataLt_int]
  unfold leN
  by_cases h : a ≤ b
  · rw [decide_eq_true h, decide_eq_false (by omega)]
    rfl
  · rw [decide_eq_false h, decide_eq_true (by omega)]
    rfl
theorem sorted_nat (l : List Nat) : ((l.map fun k => (nV k, k)).mergeSort (dataLe false fun z : V × Nat => dN z.2)).map (·.1) = (sortN l).map nV := by
  unfold sortN
  rw [show (l.map fun k => (nV k, k)).mergeSort (dataLe false fun z : V × Nat => dN z.2) = (l.mergeSort leN).map fun k => (nV k, k) from (sort_map _ fun a _ b _ => (dataLe_nat a b).symm).symm, List.map_map]
  rfl
theorem cr_sortedNt (hu : X.A.units + 64 < cLine) : CallR X (.builtin "sorted") (rSortedNt X.K) := by
  intro pins s σ H xs us Q I r h
  obtain ⟨a, l, rfl, hl, hL, q⟩ := h
  rw [Vals.ref1 r]
  obtain ⟨its, rv, ⟨o, ho, hc, n, hd⟩, hz⟩ := I.tuple (SqT.of hl)
  refine sorted_tail (zs := l.map fun k => (nV k, k)) dN I (fun {E R} k => wpAny_collect_seq a (.inr rfl) ho hc hd (fun h' hk => k h' s.toks _ hk (by rw [List.map_map]; exact rv)) (by rw [List.size_toArray, ← rv.length]; exact hz)) (fun z hz => ?_) ?_ ?_ (by rw [List.length_map]; exact hL) (fun z hz => by rw [depth_dN]; omega) hu fun p hp' => ?_
  · obtain ⟨k, _, rfl⟩ := List.mem_map.mp hz
    exact .int _
  · rw [List.map_map]
    exact alike_dNs l
  · refine .inl (.inr fun d hd => ?_)
    obtain ⟨z, _, rfl⟩ := List.mem_map.mp hd
    exact ⟨(fun e => nomatch e), (fun _ e => nomatch e)⟩
  · rw [sorted_nat]
    exact q p hp'
/-! list(d), sorted(d) -/
def kEnt (x : Ent) : V × Th := (x.2.1, x.1)
theorem nr_keys : ∀ {kvs : List Ent} {ys : List (NestedKey × Addr × Value)}, NR (kvs.map entN) ys → (∀ x, x ∈ kvs → ∃ a, x.2.1 = .ref a) → Vals (kvs.map fun x => x.2.1) (ys.map fun y => Value.ref y.2.1)
  | [], _, r, _ => by
    cases r
    exact .nil
  | x :: kvs, _, r, h => by
    rw [List.map_cons] at r
    cases r with
    | cons q r =>
      obtain ⟨a, e⟩ := h x List.mem_cons_self
      refine .cons ?_ (nr_keys r fun z hz => h z (List.mem_cons_of_mem _ hz))
      have q2 := q.2.1
      show RelV x.2.1 _
      rw [e]
      show Value.ref _ = Value.ref a
      rw [← q2]
      show Value.ref (addrOf x.2.1) = _
      rw [e]
      rfl
/-- what stands in the dict's own order -/
theorem rd_src {pins : List (Addr × Obj)} {σ : L2.St} {H : Hp} {st : Shared} {d : Addr} {kvs : List Ent} {s : Nat} (I : Inv X pins σ H st) (r : RD X.prog X.w H d kvs s) (hL : kvs.length ≤ 1000) :
    ∃ (n : Nat) (Pv : Nat → Value → Prop) (OK : Heap → Prop), PySem.W.KdlSrc X.prog X.w "dict" d d n Pv OK ∧ OK st.heap ∧ n ≤ sizeLine ∧ ∀ acc : Array Value, ItemsOf Pv acc n → Vals (kvs.map fun x => x.2.1) acc.toList := by
  rcases r.at_ with ⟨e, z⟩ | ⟨e, z⟩
  · obtain ⟨_, lo, vs, rk, hd⟩ := dk_of I.hok e
    obtain ⟨ep, hat⟩ := hd.dictAt
    have hl : kvs.length = vs.length := by
      have := Paired.length rk
      rw [List.length_map] at this
      exact this
    refine ⟨_, _, _, PySem.W.kdl_dict (knd := mixKind X.prog X.w) (kvs := vs) (ep := ep) lo, hat, by rw [← hl, sizeLine_eq]; omega, fun acc hacc => ?_⟩
    have el : acc.toList.length = acc.size := by simp
    refine vals_of_at (by rw [List.length_map, el, hacc.1, hl]) fun j x w h1 h2 => ?_
    obtain ⟨k, y, hky, hi⟩ := hacc.2 j w (by rw [← Array.getElem?_toList]; exact h2)
    obtain ⟨ent, he, rfl⟩ := map_get h1
    have sh : shp ent.1 = 0 := by
      rcases z with z | z
      · rw [r.sh _ (List.mem_of_getElem? he)]; exact z
      · rw [z] at he; exact nomatch he
    obtain ⟨m, em, ev⟩ := thI (r.th _ (List.mem_of_getElem? he)) sh
    have e1 : (vs.map (·.1))[j]? = some k := by rw [List.getElem?_map, hky]; rfl
    rw [← KV.keys rk, List.getElem?_map, List.getElem?_map, he] at e1
    have e2 : keyI ent.1 = k := Option.some.inj e1
    rw [em] at e2
    rw [ev]
    have q := keyIs_rel hi
    rw [← e2] at q
    exact q
  · obtain ⟨_, lo, ys, rel, o, es, ep, ho, hx, hdt, he, his, hn⟩ := dn_rd I.hok r z e
    have l1 : es.size = ys.length := size_of_entries he
    have l2 : kvs.length = ys.length := by
      have := Paired.length rel
      rw [List.length_map] at this
      exact this
    refine ⟨_, _, _, kdl_raw lo hx hdt, ho, by rw [l1, ← l2, sizeLine_eq]; omega, fun acc it => ?_⟩
    have ea : acc.toList = ys.map fun y => Value.ref y.2.1 := by
      have hl : acc.toList.length = ys.length := by rw [Array.length_toList, it.1]; exact l1
      apply List.ext_getElem?
      intro j
      rw [List.getElem?_map]
      cases hj : acc.toList[j]? with
      | none =>
        have h1 := List.getElem?_eq_none_iff.mp hj
        rw [List.getElem?_eq_none (by omega)]
        rfl
      | some v =>
        obtain ⟨en, hen, hv⟩ := it.2 j v (by rw [← Array.getElem?_toList]; exact hj)
        have qe := entry_at he j
        rw [hen] at qe
        cases hb : ys[j]? with
        | none =>
          rw [hb] at qe
          exact nomatch (show some en = none from qe)
        | some b =>
          rw [hb] at qe
          have e2 : en = entryOfKey (nestedKind X.prog X.w) b := Option.some.inj qe
          rw [hv, e2]
          rfl
    rw [ea]
    exact nr_keys rel fun x hx => thV (r.th x hx) (by rw [r.sh x hx]; exact z)
def rListRD (P : Program) (w : World) : List V → Hp → VK → Prop := fun xs H Q => ∃ d kvs s, xs = [V.ref d] ∧ RD P w H d kvs s ∧ kvs.length ≤ 1000 ∧ ∀ p, H p = none → Q (.ref p) (upd H p (.lst (kvs.map fun x => x.2.1)))
theorem call_listRD (hc : X.calm = true) : CallR X (.type "list") (rListRD X.prog X.w) := by
  intro pins s σ H xs us Q I r h
  obtain ⟨d, kvs, s', rfl, rd, hL, q⟩ := h
  rw [Vals.ref1 r]
  obtain ⟨n, Pv, OK, src, ok, hn, fin⟩ := rd_src I rd hL
  refine PySem.W.kdl_call src (I.ok.hd hc) ok hn fun h' tk acc' c' kp e it => ?_
  refine ⟨.ref s.heap.objs.size, _, I.laid (t' := tk) (o := .lst (kvs.map fun x => x.2.1)) kp (Nat.le_refl _) ?_, rfl, q _ (I.hok.fresh (Nat.le_refl _))⟩
  exact ⟨by rw [List.length_map, sizeLine_eq]; omega, acc'.toList, c', fin acc' it, by rw [Array.toArray_toList]; exact e⟩
def rSortedRD (P : Program) (w : World) : List V → Hp → VK → Prop := fun xs H Q => ∃ d kvs s, xs = [V.ref d] ∧ RD P w H d kvs s ∧ kvs.length ≤ 1000 ∧ (kvs.map (·.1)).Nodup ∧ ((∀ x, x ∈ kvs → thD x.1 ≠ .tuple []) ∨ kvs.length ≤ 1) ∧
  ∀ p (zs : List (V × Th)), H p = none → zs.Perm (kvs.map kEnt) → zs.Pairwise (fun a b => ltT a.2 b.2 = true) → Q (.ref p) (upd H p (.lst (zs.map (·.1))))
theorem call_sortedRD (hc : X.calm = true) (hu : X.A.units + 64 < cLine) : CallR X (.builtin "sorted") (rSortedRD X.prog X.w) := by
  intro pins s σ H xs us Q I r h
  obtain ⟨d, kvs, s', rfl, rd, hL, hnd, hne, q⟩ := h
  rw [Vals.ref1 r]
  obtain ⟨n, Pv, OK, src, ok, hn, fin⟩ := rd_src I rd hL
  have e0 : (kvs.map kEnt).map (fun z => thD z.2) = kvs.map fun x => thD x.1 := by rw [List.map_map]; rfl
  have hal : AllAlike (kvs.map fun x => thD x.1) := fun a ha b hb => by
    obtain ⟨x, hx, rfl⟩ := List.mem_map.mp ha
    obtain ⟨y, hy, rfl⟩ := List.mem_map.mp hb
    exact alike_thD ((rd.sh x hx).trans (rd.sh y hy).symm)
  have shape : ∀ x, x ∈ kvs → thD x.1 ≠ .tuple [] → (s' = 0 ∧ thD x.1 ≠ .none ∧ ∀ xs, thD x.1 ≠ .tuple xs) ∨ (s' ≠ 0 ∧ ∃ a r, thD x.1 = .tuple (a :: r)) := fun x hx hn => by
    have hs := rd.sh x hx
    cases hx1 : x.1 with
    | pl k =>
      rw [hx1] at hs
      exact .inl ⟨hs.symm, (fun e => nomatch e), (fun _ e => nomatch e)⟩
    | row l =>
      rw [hx1] at hs hn
      refine .inr ⟨(by rw [← hs]; exact (fun e => nomatch e)), ?_⟩
      cases l with
      | nil => exact absurd rfl hn
      | cons a r => exact ⟨_, _, rfl⟩
    | net l =>
      rw [hx1] at hs hn
      refine .inr ⟨(by rw [← hs]; exact (fun e => nomatch e)), ?_⟩
      cases l with
      | nil => exact absurd rfl hn
      | cons a r => exact ⟨_, _, rfl⟩
  have hk : Sortable (kvs.map fun x => thD x.1) ∨ (kvs.map fun x => thD x.1) = [.tuple []] := by
    have all : (∀ x, x ∈ kvs → thD x.1 ≠ .tuple []) → Sortable (kvs.map fun x => thD x.1) := fun hne => by
      by_cases z : s' = 0
      · refine .inr fun d hd => ?_
        obtain ⟨x, hx, rfl⟩ := List.mem_map.mp hd
        rcases shape x hx (hne x hx) with ⟨_, q⟩ | ⟨q, _⟩
        · exact q
        · exact absurd z q
      · refine .inl fun d hd => ?_
        obtain ⟨x, hx, rfl⟩ := List.mem_map.mp hd
        rcases shape x hx (hne x hx) with ⟨q, _⟩ | ⟨_, q⟩
        · exact absurd q z
        · exact q
    rcases hne with hne | h1
    · exact .inl (all hne)
    · by_cases e : ∀ x, x ∈ kvs → thD x.1 ≠ .tuple []
      · exact .inl (all e)
      · match kvs, h1, e with
        | [], _, _ => exact .inl (.inl fun _ hd => nomatch hd)
        | [x], _, e =>
          refine .inr ?_
          by_cases e2 : thD x.1 = .tuple []
          · rw [List.map_cons, e2]
            rfl
          · exact absurd (fun y hy => by rw [List.mem_singleton.mp hy]; exact e2) e
  have sl : ∀ a b : V × Th, dataLe false (fun z : V × Th => thD z.2) a b = !ltT b.2 a.2 := fun _ _ => rfl
  refine sorted_tail (zs := kvs.map kEnt) thD I (fun {E R} k => PySem.W.kdu_collect (A := X.A.in1) src (I.ok.hd hc) ok hn fun h' tk acc hk hacc => k h' tk acc.toList hk (by rw [List.map_map]; exact fin acc hacc)) (fun z hz => ?_) (by rw [e0]; exact hal) (by rw [e0]; exact hk) (by rw [List.length_map]; exact hL)
    (fun z hz => by have := depth_thD z.2; omega) hu fun p hp => ?_
  · obtain ⟨x, hx, rfl⟩ := List.mem_map.mp hz
    exact (rd.th x hx).dp
  · refine q p _ hp (List.mergeSort_perm _ _) ?_
    have pw := PySem.W.sort_pairwise (PySem.W.sortLe_total (PyProof.Rows.listOrd PyProof.Rows.itemOrd) false fun z : V × Th => PySem.W.keyToks (thD z.2)) (kvs.map kEnt)
    have nd : ((kvs.map kEnt).mergeSort (dataLe false fun z : V × Th => thD z.2)).Pairwise fun a b => a.2 ≠ b.2 := by
      have n1 : ((kvs.map kEnt).map (·.2)).Nodup := by rw [List.map_map]; exact hnd
      have n2 := ((List.mergeSort_perm (kvs.map kEnt) (dataLe false fun z : V × Th => thD z.2)).map (·.2)).nodup_iff.mpr n1
      exact List.pairwise_map.mp (List.nodup_iff_pairwise_ne.mp n2)
    refine (pw.and nd).imp_of_mem fun {a b} ha hb ⟨h1, h2⟩ => ?_
    have shm : ∀ z, z ∈ (kvs.map kEnt).mergeSort (dataLe false fun z : V × Th => thD z.2) → shp z.2 = s' := fun z hz => by
      obtain ⟨x, hx, rfl⟩ := List.mem_map.mp (List.mem_mergeSort.mp hz)
      exact rd.sh x hx
    refine ltT_total ((shm a ha).trans (shm b hb).symm) h2 ?_
    have h1 : (!ltT b.2 a.2) = true := h1
    simpa using h1
end
end K43
/-! R5: displays of one pair, <, list(reversed(l)), min and max of a pair, len(set(pairs)). -/
namespace K43
open PySem PySem.Spec PyProof.Rows L2
theorem dict_pairsH {prog : Program} {w : World} {K : Type} [DecidableEq K] {knd : HeapKind prog w K} {A : Around} {E : Value → Shared → Prop} {s : Shared} {env : Env} {keys : List (Option Expr)} {values : List Expr} {pos : Pos} {pairs : List (Sem Value × Sem Value)} {Q : Value → Shared → Prop} (hu : knd.room A)
    (hshape : (evalEachOpt keys env).zip ((evalEach values env).map fun v => do let x ← v; standAt pos; pure x) = pairs.map fun p => (some p.1, p.2)) (h0 : pairs ≠ []) (hlen : pairs.length ≤ 15)
    (h : wpAny (model prog w) A (evalPairs pairs) (fun vs s₁ => ∃ ps, CarriesH knd s₁.heap vs ps ∧ s₁.heap.DictOfH knd s.heap.objs.size [] ∧
      ∀ h' tk, h'.DictOfH knd s.heap.objs.size (storedAllH [] ps) → Heap.SameBut s.heap.objs.size s₁.heap h' → Q (.ref s.heap.objs.size) { s₁ with heap := h', toks := tk }) E
      { s with heap := s.heap.push { cls := .type "dict", data := .dict #[] } }) :
    wpAny (model prog w) A (eval (.Dict keys values pos) env) Q E s := by
  rw [arm_eval_Dict, hshape, dictDisplay_pairs pairs h0 (by omega)]
  exact wpAny_bind (wpAny_standAt (wpAny_bind (wpAny_subDictH (knd := knd) (Q := fun d s' => wpAny (model prog w) A (pure (Value.ref d)) Q E s') hu hlen
    (wpAny_mono h (fun vs s₁ h₁ => by obtain ⟨ps, hc, hm, hq⟩ := h₁; exact ⟨ps, hc, hm, fun h' tk a b => wpAny_pure (hq h' tk a b)⟩) fun _ _ e => e))))
section
variable {X : Cx}
/-! {t: v} -/
def tDispT (P : Program) (w : World) (tk tv : TE) : TE := fun σ H Q => ∃ b : Bool, ∀ p, H p = none → tk σ (upd H p (.dK [])) fun x H1 => tv σ H1 fun y H2 => H2 p = some (.dK []) ∧ ∃ t s, ThAt H2 x t ∧ shp t = s ∧ (b = true ↔ s = 0) ∧
  ∀ o, RD P w (upd H2 p o) p [(t, x, y)] s → Q (.ref p) (upd H2 p o)
theorem pe_dispT {pos : Pos} {k v : Expr} {tk tv : TE} (hu : X.A.units + 64 < cLine) (hk : PE X k tk) (hv : PE X v tv) : PE X (.Dict [some k] [v] pos) (tDispT X.prog X.w tk tv) := by
  refine ⟨fun pins s σ H Q I q => ?_⟩
  obtain ⟨b, q⟩ := q
  have hps : PPs X pos [some k] [v] [(tk, tv)] := pps_cons hk hv pps_nil
  have hn := I.hok.fresh (Nat.le_refl s.heap.objs.size)
  have I1 := I.laid (a := s.heap.objs.size) (o := .dK []) (h' := s.heap.push { cls := .type "dict", data := .dict #[] }) (t' := s.toks) (fun _ _ q => Heap.get?_push_of_some _ q) (Nat.le_refl _) (dk_empty s.heap I.big)
  have hrun := hps.run pins _ σ _ (fun ps H2 => match ps with
    | [(x, y)] => H2 s.heap.objs.size = some (.dK []) ∧ ∃ t s', ThAt H2 x t ∧ shp t = s' ∧ (b = true ↔ s' = 0) ∧ ∀ o, RD X.prog X.w (upd H2 s.heap.objs.size o) s.heap.objs.size [(t, x, y)] s' → Q (.ref s.heap.objs.size) (upd H2 s.heap.objs.size o)
    | _ => False) I1 (q _ hn)
  cases b with
  | true =>
    refine wpAny_Dict_walk (knd := mixKind X.prog X.w) rfl rfl (by simp) (by show 1 ≤ 15; decide) (thn hrun fun ws s2 ⟨ps, H2, I2, rel, q2⟩ => ?_)
    match ps, rel, q2 with
    | [(x, y)], .cons (b := (u1, u2)) rz .nil, ⟨e, t, s', ht, hs, hb, fin⟩ =>
      have z0 : s' = 0 := hb.mp rfl
      subst z0
      obtain ⟨n, rfl, rfl⟩ := thI ht hs
      obtain ⟨z, hd, vs0, r0, dd⟩ := dk_of I2.hok e
      cases r0
      have r1 : RelV (kV (.inl (n : Int))) u1 := rz.1
      refine ⟨[(.inl (n : Int), u2)], ⟨kV_is r1, rfl, True.intro⟩, dd, fun h' dd' hs' => ⟨.ref s.heap.objs.size, _, ?_, rfl, fin (.dK (mergeK [] [(.inl (n : Int), y)])) ⟨?_, ?_, ?_⟩⟩⟩
      · have he : ∃ q, h'.get? s.heap.objs.size = some q := let ⟨q, _, _, hq, _⟩ := dd'; ⟨q, hq⟩
        exact d_write I2 (by rw [e]; exact True.intro) hs' he (dk_new (by show 1 ≤ sizeLine; rw [sizeLine_eq]; omega) hd (KV.merge (.cons ⟨rfl, rz.2⟩ .nil) .nil) dd')
      · intro z hz
        rw [List.mem_singleton.mp hz]
        exact ht.tups (Tups.upd e fun _ z => nomatch z)
      · intro z hz
        rw [List.mem_singleton.mp hz]
        rfl
      · exact .inl ⟨upd_same, .inl rfl⟩
  | false =>
    have hall : ([some k] : List (Option Expr)).all (·.isSome) = true := rfl
    refine dict_pairsH (knd := nestedKind X.prog X.w) (show X.A.units + 8 < cLine by omega) (zip_pairTrees [some k] [v] X.env pos hall rfl) ?_ ?_ (thn hrun fun ws s2 ⟨ps, H2, I2, rel, q2⟩ => ?_)
    · intro h
      have := pairTrees_length [some k] [v] X.env pos hall rfl
      rw [h] at this
      exact nomatch this
    · rw [pairTrees_length [some k] [v] X.env pos hall rfl]
      show 1 ≤ 15
      decide
    match ps, rel, q2 with
    | [(x, y)], .cons (b := (u1, u2)) rz .nil, ⟨e, t, s', ht, hs, hb, fin⟩ =>
      have z0 : s' ≠ 0 := fun z => nomatch hb.mpr z
      obtain ⟨a, rfl⟩ := thV ht (by rw [hs]; exact z0)
      obtain ⟨z, hd, vs0, r0, dd⟩ := dk_of I2.hok e
      cases r0
      obtain ⟨o, es, ep, h1, h2, h3, h4, h5, _⟩ := dd
      have e0 : es.toList = [] := by
        cases q : es.toList with
        | nil => rfl
        | cons y ys =>
          rw [q] at h5
          exact nomatch h5
      have r1 : u1 = Value.ref a := rz.1
      refine ⟨[(thK t, a, u2)], ⟨r1, rfl, ht.is_ I2.hok, True.intro⟩, ⟨o, es, ep, h1, h2, h3, e0, (fun _ hx => nomatch hx), List.nodup_nil⟩, fun h' tk' dd' hs' => ?_⟩
      have dd2 : h'.DictOfH (nestedKind X.prog X.w) s.heap.objs.size [(thK t, a, u2)] := dd'
      have he : ∃ q, h'.get? s.heap.objs.size = some q := let ⟨q, _, _, hq, _⟩ := dd2; ⟨q, hq⟩
      refine ⟨.ref s.heap.objs.size, _, d_write I2 (by rw [e]; exact True.intro) hs' he (dn_new (xs := [(thK t, a, y)]) (by show 1 ≤ sizeLine; rw [sizeLine_eq]; omega) hd (.cons ⟨rfl, rfl, rz.2⟩ .nil) dd2), rfl, fin _ ⟨?_, ?_, .inr ⟨upd_same, z0⟩⟩⟩
      · intro z hz
        rw [List.mem_singleton.mp hz]
        exact ht.tups (Tups.upd e fun _ z => nomatch z)
      · intro z hz
        rw [List.mem_singleton.mp hz]
        exact hs
/-! < -/
def rLtT : R2 := fun x y H Q => ∃ a b, ThAt H x a ∧ ThAt H y b ∧ shp a = shp b ∧ Q (.bl (ltT a b)) H
theorem op_ltT (hu : X.A.units + 64 < cLine) : OpR X (compareOp .Lt) rLtT := by
  intro pins s σ H x y v u Q I rx ry h
  obtain ⟨a, b, ha, hb, hs, q⟩ := h
  obtain ⟨as, r1⟩ := Dp.reads I (thD a) x v ha.dp rx
  obtain ⟨bs, r2⟩ := Dp.reads I (thD b) y u hb.dp ry
  have hd := depth_thD a
  exact PySem.W.rcLt_alike (thD a) (thD b) X.A s v u as bs r1 r2 (alike_thD hs) (thD_none a) (by omega) X.prog X.w X.xe _ ⟨.bl _, H, I, rfl, q⟩
/-! min, max of a pair -/
theorem pair_reads {pins : List (Addr × Obj)} {σ : L2.St} {H : Hp} {s : Shared} {a : Addr} {p : Nat × Nat} (I : Inv X pins σ H s) (h : PairAt H a p) : ∃ its : Array Value, s.heap.IsTuple a its ∧ ∃ as, ReadsAll s.heap its.toList [dN p.1, dN p.2] as := by
  obtain ⟨its, rv, pt, _⟩ := I.tuple (SqT.of h)
  obtain ⟨as, r⟩ := Dp.readsAll I [dN p.1, dN p.2] [nV p.1, nV p.2] its (.cons (.int _) (.cons (.int _) .nil)) rv
  exact ⟨_, pt, as, by simpa using r⟩
theorem alike_pair (p : Nat × Nat) : PySem.W.AlikeAll [dN p.1, dN p.2] := by
  have := alike_dNs [p.1, p.2]
  refine ⟨this, fun x hx => ?_⟩
  rcases List.mem_cons.mp hx with rfl | hx
  · exact fun e => nomatch e
  · rw [List.mem_singleton.mp hx]
    exact fun e => nomatch e
def rMinP : List V → Hp → VK → Prop := fun vs H Q => ∃ a p, vs = [.ref a] ∧ PairAt H a p ∧ Q (nV (min p.1 p.2)) H
def rMaxP : List V → Hp → VK → Prop := fun vs H Q => ∃ a p, vs = [.ref a] ∧ PairAt H a p ∧ Q (nV (max p.1 p.2)) H
theorem cr_minP (hc : X.calm = true) (hu : X.A.units + 64 < cLine) : CallR X (.builtin "min") rMinP := by
  intro pins s σ H xs us Q I r h
  obtain ⟨a, p, rfl, hp, q⟩ := h
  rw [Vals.ref1 r]
  obtain ⟨its, ht, as, hr⟩ := pair_reads I hp
  refine PySem.W.min_tuple_data (I.ok.hd hc) ht hr (alike_pair p) (by have := depthAll_nat [p.1, p.2]; have : PyData.depthAll [dN p.1, dN p.2] ≤ 1 := this; omega) fun i v h' tk bs hv hr' hk => ?_
  have e : PySem.W.minD (dN p.1) [dN p.2] = dN (min p.1 p.2) := by
    have := PySem.W.minD_ints (p.1 : Int) [(p.2 : Int)]
    have e2 : (min (p.1 : Int) (p.2 : Int)) = ((min p.1 p.2 : Nat) : Int) := by omega
    exact this.trans (congrArg PyData.int e2)
  rw [e] at hr'
  cases hr' with
  | int _ t => exact ⟨nV (min p.1 p.2), H, I.kept hk, ⟨t, rfl⟩, q⟩
theorem cr_maxP (hc : X.calm = true) (hu : X.A.units + 64 < cLine) : CallR X (.builtin "max") rMaxP := by
  intro pins s σ H xs us Q I r h
  obtain ⟨a, p, rfl, hp, q⟩ := h
  rw [Vals.ref1 r]
  obtain ⟨its, ht, as, hr⟩ := pair_reads I hp
  refine PySem.W.max_tuple_data (I.ok.hd hc) ht hr (alike_pair p) (by have := depthAll_nat [p.1, p.2]; have : PyData.depthAll [dN p.1, dN p.2] ≤ 1 := this; omega) fun i v h' tk bs hv hr' hk => ?_
  have e : PySem.W.maxD (dN p.1) [dN p.2] = dN (max p.1 p.2) := by
    have := PySem.W.maxD_ints (p.1 : Int) [(p.2 : Int)]
    have e2 : (max (p.1 : Int) (p.2 : Int)) = ((max p.1 p.2 : Nat) : Int) := by omega
    exact this.trans (congrArg PyData.int e2)
  rw [e] at hr'
  cases hr' with
  | int _ t => exact ⟨nV (max p.1 p.2), H, I.kept hk, ⟨t, rfl⟩, q⟩
/-! len(set(pairs)) -/
def tLenSetP (K : PySem.W.Frag) (ta : TE) : TE := fun σ H Q => ta σ H fun x H1 => ∃ (l : Addr) (bs : List Addr) (ps : List (Nat × Nat)), x = V.ref l ∧ SqL K H1 l (bs.map V.ref) ∧ Paired (PairAt H1) bs ps ∧ ps.length < 64 ∧ ps.Nodup ∧ Q (.int ps.length) H1
theorem pair_inj {p q : Nat × Nat} (h : [(p.1 : Int), (p.2 : Int)] = [(q.1 : Int), (q.2 : Int)]) : p = q := by
  have h1 := (List.cons.inj h).1
  have h2 := (List.cons.inj (List.cons.inj h).2).1
  obtain ⟨a, b⟩ := p
  obtain ⟨c, d⟩ := q
  have e1 : a = c := by
    simp only at h1
    omega
  have e2 : b = d := by
    simp only at h2
    omega
  rw [e1, e2]
theorem pe_lenSetP {a : Expr} {ta : TE} {p p2 q pos : Pos} (hc : X.calm = true) (hu : X.A.units + 64 < cLine) (hg : Gl X "len") (hm : X.mg "len" = none) (hg2 : Gl X "set") (hm2 : X.mg "set" = none) (ha : PE X a ta)
    (na : starEach [a] X.env = (false, eval a X.env) :: starEach [] X.env := by rfl) : PE X (.Call (.Name "len" p) [.Call (.Name "set" p2) [a] [] q] [] pos) (tLenSetP X.K ta) := by
  refine ⟨fun pins s σ H Q I h => ?_⟩
  refine Call_ (ld_blt I hg hm PySem.boot_len ?_)
  refine PyProof.Rows.callWith_builtin1 (PyProof.Rows.args_cons ?_ rfl) rfl rfl
  refine Call_ (ld_blt I hg2 hm2 PyProof.Rows.boot_set ?_)
  refine PyProof.Rows.callWith_type1 (PyProof.Rows.args_cons (thn (ha.run pins s σ H _ I h) fun v s1 ⟨x, H1, I1, r1, q1⟩ => PyProof.Rows.args_nil ?_) na) na rfl
  obtain ⟨l, bs, ps, rfl, hq, hp, h1, hnd, q1⟩ := q1
  cases r1
  obtain ⟨its, r, pl, hz⟩ := I1.list hq
  obtain ⟨ks, k1, k2, k3⟩ : ∃ ks : List (Addr × List Int), ks.map (fun z => V.ref z.1) = bs.map V.ref ∧ ks.map (·.2) = ps.map (fun p => [(p.1 : Int), (p.2 : Int)]) ∧ ∀ z, z ∈ ks → IsT X.prog X.w s1.heap z.2 z.1 := by
    clear r pl hz q1 h1 hnd hq
    induction hp with
    | nil => exact ⟨[], rfl, rfl, fun _ h => nomatch h⟩
    | @cons b p bs ps hb t ih =>
      obtain ⟨ks, k1, k2, k3⟩ := ih
      refine ⟨(b, [(p.1 : Int), (p.2 : Int)]) :: ks, by rw [List.map_cons, k1]; rfl, by rw [List.map_cons, k2]; rfl, fun z hz => ?_⟩
      rcases List.mem_cons.mp hz with rfl | hz
      · exact I1.isT (SqT.of hb)
      · exact k3 z hz
  have kl : ks.length = ps.length := by
    have := congrArg List.length k2
    rwa [List.length_map, List.length_map] at this
  have hu2 := X.A.in1
  refine call_set_tups (P := X.prog) (w := X.w) ks (I1.ok.hd hc) pl.isList (by
    have : its = ks.map fun p => Value.ref p.1 := refs_of_vals (by rw [k1]; exact r)
    simpa using this) k3 (by omega) (by omega) fun h' tk L es ep t R g k => ?_
  refine PyProof.Rows.args_nil ?_
  have I2 : Inv X pins σ H1 { s1 with heap := h', toks := tk } := I1.kept k
  obtain ⟨o, ho, hex, hd⟩ := R.ob
  have hL : L.length = ps.length := by
    have n1 : (ks.map (·.2)).Nodup := by
      rw [k2]
      exact List.nodup_iff_pairwise_ne.mpr (List.pairwise_map.mpr ((List.nodup_iff_pairwise_ne.mp hnd).imp fun {a b} hab e => hab (pair_inj e)))
    have s1 : (L.map (·.2)).length ≤ (ks.map (·.2)).length := List.Nodup.length_le_of_subset R.nd fun y hy => by
      obtain ⟨z, hz, rfl⟩ := List.mem_map.mp hy
      exact List.mem_map.mpr ⟨z, List.mem_of_mem_take (g.sub z hz), rfl⟩
    have s2 : (ks.map (·.2)).length ≤ (L.map (·.2)).length := List.Nodup.length_le_of_subset n1 fun y hy => by
      obtain ⟨z, hz, rfl⟩ := List.mem_map.mp hy
      exact g.all z (by rw [List.take_length]; exact hz)
    rw [List.length_map, List.length_map] at s1 s2
    omega
  have hes : es.size = ps.length := (SetTR.size (s := { s1 with heap := h', toks := tk }) R).trans hL
  refine call_len_set ho hex hd (SetTR.fits (s := { s1 with heap := h', toks := tk }) R) (by rw [hes]; omega) ⟨.int ps.length, H1, I2.tok _, ⟨_, by rw [hes]⟩, q1⟩
end
end K43
/-! R6: list(reversed(l)). -/
namespace K43
open PySem PySem.Spec PyProof.Rows L2
section
variable {prog : Program} {w : World} {A : Around} {E : Value → Shared → Prop} {s : Shared}
theorem ext_rev {it l S : Addr} {items : Array Value} {R : Result → Shared → Prop} (hh : A.handled = none) (hit : s.heap.IsRevIter it l ((items.size : Int) - 1)) (hl : s.heap.IsList l items) (hne : l ≠ it) (hSi : S ≠ it) (hSl : S ≠ l) (res : Value) (c₀ : Nat)
    (hS : s.heap.get? S = some { cls := .type "list", data := .seq #[] c₀ }) (hn : items.size ≤ sizeLine)
    (hR : ∀ h' tk acc' c', (∀ b o, b ≠ S → b ≠ it → s.heap.get? b = some o → h'.get? b = some o) → h'.get? S = some { cls := .type "list", dict := none, data := .seq acc' c', slots := #[] } → ItemsOf (fun i v => items[items.size - 1 - i]? = some v) acc' items.size → R (.ok (.ret res)) { s with heap := h', toks := tk }) :
    wpAny (model prog w) A.in1 (Builtin.List.listExtendWith (.ref S) (.ref it) res)
      (fun fin s' => match fin with | .done f => R (.ok f) s' | .again c' => c'.quiet = true ∧ codeAny (model prog w) A c' R s') (fun e s' => R (.error e) s') s := by
  have W := (Walks.listRev (prog := prog) (w := w) (A := A.in1) hh it l hne items).toS
  have hSf : S ∉ [it, l] := by simp only [List.mem_cons, List.not_mem_nil, or_false, not_or]; exact ⟨hSi, hSl⟩
  have hT : s.TypeIs (.ref it) "list_reverseiterator" := hit.typeIs
  have h1 : Builtin.List.listSameRef (.ref S) (.ref it) = false := by simp [Builtin.List.listSameRef, hSi]
  unfold Builtin.List.listExtendWith
  refine wpAny_bind (wpAny_typeOf hT ?_)
  rw [if_neg (by rw [h1]; decide)]
  refine wpAny_bind (wpAny_pyIter_revIter hit ?_)
  refine wpAny_bind (wpAny_holding ?_)
  unfold Builtin.List.listLengthHint
  refine wpAny_bind (wpAny_specialOf hT RT.nolen_lri ?_)
  show wpAny _ A.in1 (specialOf (Value.ref it) (Str.ofString "__length_hint__") >>= _) _ _ _
  refine wpAny_bind (wpAny_specialOf hT RT.hint_lri ?_)
  generalize hid : ("list_reverseiterator.__length_hint__" : String) = id0
  wp_delta
  rw [show splitId id0 = some ("list_reverseiterator", "__length_hint__") from by subst hid; decide +kernel]
  subst hid
  refine wpAny_bind (wpAny_isInstance (b := true) hT (by rw [isSubtype_type]; kernel_rfl) ?_)
  refine wpAny_pure ?_
  rw [if_neg (by decide)]
  have e0 : ((items.size : Nat) : Int) - 1 - ((0 : Nat) : Int) = (items.size : Int) - 1 := by omega
  refine wpAny_pure ⟨plainId_quiet F.plain_extend_loop _, codeAny_extend_loopS W hn S hSf res items.size 0 _ _ _ rfl (Nat.zero_le _) ⟨Nat.zero_le _, by rw [e0]; exact hit, hl⟩ hS (ItemsOf.nil _) fun s' acc' c' hm hS' hacc => ?_⟩
  rw [Moved.eq_with hm]
  refine hR s'.heap s'.toks acc' c' (fun b o hb hb2 e => hm.heap b o (fun hmem => ?_) e) hS' hacc
  rcases List.mem_cons.mp hmem with e' | hmem
  · exact hb e'
  · exact hb2 (List.mem_singleton.mp hmem)
theorem call_list_rev {it l : Addr} {items : Array Value} {Q : Value → Shared → Prop} (hh : A.handled = none) (hit : s.heap.IsRevIter it l ((items.size : Int) - 1)) (hl : s.heap.IsList l items) (hne : l ≠ it) (hn : items.size ≤ sizeLine)
    (hQ : ∀ h' tk acc' c', (∀ b o, b ≠ it → s.heap.get? b = some o → h'.get? b = some o) → h'.get? s.heap.objs.size = some { cls := .type "list", dict := none, data := .seq acc' c', slots := #[] } → ItemsOf (fun i v => items[items.size - 1 - i]? = some v) acc' items.size → Q (.ref s.heap.objs.size) { s with heap := h', toks := tk }) :
    wpAny (model prog w) A (call (.type "list") [.ref it]) Q E s := by
  refine callType_codes (Q₁ := fun obj s₁ => obj = .ref s.heap.objs.size ∧ s₁ = { s with heap := s.heap.push { cls := .type "list", data := .seq #[] } }) PySem.F.called_list (PySem.F.typeCall_list_1 _) PySem.F.entry_list_init
    (code_list_new _ ⟨rfl, rfl⟩) fun obj s₁ h₁ => ?_
  obtain ⟨rfl, rfl⟩ := h₁
  have hS : (s.heap.push { cls := .type "list", data := .seq #[] }).get? s.heap.objs.size = some { cls := .type "list", data := .seq #[] } := Heap.get?_push_size _ rfl
  obtain ⟨oi, hoi, _⟩ := id hit
  obtain ⟨ol, hol, _⟩ := id hl
  have hSi : s.heap.objs.size ≠ it := Nat.ne_of_gt (Heap.lt_size hoi)
  have hSl : s.heap.objs.size ≠ l := Nat.ne_of_gt (Heap.lt_size hol)
  refine ⟨⟨_, hS, rfl⟩, PySem.F.args_list_init_2 _ _, ?_⟩
  show wpAny _ _ (do let old ← Builtin.List.listItems (.ref s.heap.objs.size); Builtin.List.listUpdate (.ref s.heap.objs.size) (fun _ => #[]); letGo old.toList.reverse; Builtin.List.listExtendWith (.ref s.heap.objs.size) (.ref it) .none) _ _ _
  refine wpAny_bind ?_
  unfold Builtin.List.listItems
  refine wpAny_bind (wpAny_seqItems hS rfl (wpAny_pure ?_))
  show wpAny _ _ (updateSeq s.heap.objs.size (fun _ => #[]) >>= fun _ => letGo (#[] : Array Value).toList.reverse >>= fun _ => Builtin.List.listExtendWith (.ref s.heap.objs.size) (.ref it) .none) _ _ _
  refine wpAny_bind (wpAny_updateSeq hS rfl ?_)
  have hS₂ := Heap.get?_update_self (Obj.mapSeq (fun _ => (#[] : Array Value))) hS rfl
  have oth : ∀ b o, s.heap.get? b = some o → ((s.heap.push { cls := .type "list", data := .seq #[] }).update s.heap.objs.size (Obj.mapSeq (fun _ => (#[] : Array Value)))).get? b = some o :=
    fun b o e => (Heap.get?_update_other _ _ (Nat.ne_of_gt (Heap.lt_size e))).trans (Heap.get?_push_of_some _ e)
  refine wpAny_bind (wpAny_letGo ?_)
  obtain ⟨_, _, hr1, hr2⟩ := id hit
  refine ext_rev (A := A.in1) (items := items) hh ⟨oi, oth _ _ hoi, ?_⟩ ?_ hne hSi hSl .none _ hS₂ hn fun h' tk acc' c' hk hS' hacc => ?_
  · obtain ⟨o', ho', r⟩ := id hit
    rw [hoi] at ho'
    cases ho'
    exact r
  · obtain ⟨o', ho', r⟩ := id hl
    exact ⟨o', oth _ _ ho', r⟩
  · exact ⟨rfl, hQ h' tk acc' c' (fun b o hb e => hk b o (Nat.ne_of_lt (Heap.lt_size e)) hb (oth b o e)) hS' hacc⟩
end
def tListRev (K : PySem.W.Frag) (te : TE) : TE := fun σ H Q => te σ H fun v H1 => ∃ (a : Addr) (xs : List V), v = .ref a ∧ SqL K H1 a xs ∧ ∀ q, H1 q = none → Q (.ref q) (upd H1 q (.lst xs.reverse))
section
variable {X : Cx}
theorem pe_listRev {e : Expr} {te : TE} {p p2 pos pos2 : Pos} (hc : X.calm = true) (hg : Gl X "list") (hm : X.mg "list" = none) (hg2 : Gl X "reversed") (hm2 : X.mg "reversed" = none) (he : PE X e te)
    (hs : starEach [e] X.env = (false, eval e X.env) :: starEach [] X.env := by rfl)
    (hs2 : starEach [.Call (.Name "reversed" p2) [e] [] pos2] X.env = (false, eval (.Call (.Name "reversed" p2) [e] [] pos2) X.env) :: starEach [] X.env := by rfl) :
    PE X (.Call (.Name "list" p) [.Call (.Name "reversed" p2) [e] [] pos2] [] pos) (tListRev X.K te) := by
  refine ⟨fun pins s σ H Q I h => ?_⟩
  refine Call_ (ld_blt I hg hm boot_list (PyProof.Rows.callWith_type1 (args_cons (Call_ (ld_blt I hg2 hm2 PyProof.Rows.boot_reversed (PyProof.Rows.callWith_type1 (args_cons (thn (he.run pins s σ H _ I h) fun u s1 ⟨v, H1, I1, r1, q1⟩ => args_nil ?_) hs) hs rfl))) hs2) hs2 rfl))
  obtain ⟨a, xs, ev, hq, q⟩ := q1
  subst ev
  obtain rfl : u = Value.ref a := r1
  obtain ⟨its, rv, p', hz⟩ := I1.list hq
  refine call_reversed_list p'.isList (args_nil ?_)
  have k0 : ∀ b o, s1.heap.get? b = some o → (s1.heap.push (revObj a ((its.toArray.size : Int) - 1))).get? b = some o := fun b o e => Heap.get?_push_of_some _ e
  have I2 : Inv X pins σ H1 { s1 with heap := s1.heap.push (revObj a ((its.toArray.size : Int) - 1)) } := I1.kept (t' := s1.toks) k0
  obtain ⟨f0, f1, f2, f3, f4, f5⟩ := I1.fpOk (H' := H1) (b := s1.heap.objs.size) (Nat.le_refl _) (I1.hok.fresh (Nat.le_refl _))
  have hl := p'.isList
  obtain ⟨ol, hol, _⟩ := id hl
  have hne : a ≠ s1.heap.objs.size := Nat.ne_of_lt (Heap.lt_size hol)
  have hn : its.toArray.size ≤ sizeLine := by rw [List.size_toArray, ← rv.length]; exact hz
  refine call_list_rev (s := { s1 with heap := s1.heap.push (revObj a ((its.toArray.size : Int) - 1)) }) (I1.ok.hd hc) ⟨_, Heap.get?_push_size _ rfl, rfl, rfl⟩ (hl.push _) hne hn fun h' tk acc c' hk hS hi => ?_
  have I3 : Inv X pins σ H1 { s1 with heap := h', toks := tk } := I2.turned (t' := tk) (fun b o hb e => hk b o hb e) f0 f1 f3 f4 f5
  have hsz : (s1.heap.push (revObj a ((its.toArray.size : Int) - 1))).objs.size = s1.heap.objs.size + 1 := Heap.size_push ..
  have nn : H1 (s1.heap.push (revObj a ((its.toArray.size : Int) - 1))).objs.size = none := I2.hok.fresh (Nat.le_refl _)
  refine ⟨.ref _, upd H1 _ (.lst xs.reverse), I2.turnedNew (t' := tk) (ch := [s1.heap.objs.size]) (fun b o hb e => hk b o (fun z => hb (List.mem_singleton.mpr z)) e) (fun b hb => ?_) (Nat.le_refl _)
    (show ObjOk X.prog X.w _ _ _ (.lst xs.reverse) from ⟨by rw [List.length_reverse]; exact hz, acc.toList, c', RT.vals_rev rv hi, by rw [Array.toArray_toList]; exact hS⟩), rfl, q _ nn⟩
  rw [List.mem_singleton.mp hb]
  exact I1.fpOk (Nat.le_refl _) (I1.hok.fresh (Nat.le_refl _))
end
end K43
/-! W10: row_of, places_of, in_order, pair_of, the acts' __init__. -/
namespace K43
open PySem PySem.Spec PyProof.Rows L2
/-- a list or tuple -/
def Seqs (H : Hp) (a : Addr) (xs : List V) : Prop := H a = some (.lst xs) ∨ H a = some (.tup xs)
theorem Seqs.same {H H' : Hp} {a : Addr} {xs : List V} (h : Seqs H a xs) (s : Same H H') : Seqs H' a xs := h.imp (fun q => s _ _ q) fun q => s _ _ q
theorem Seqs.sq {K : PySem.W.Frag} {H : Hp} {a : Addr} {xs : List V} (h : Seqs H a xs) : SqL K H a xs ∨ SqT K H a xs := h.imp (fun q => SqL.of q) fun q => SqT.of q
theorem Seqs.ty {K : PySem.W.Frag} {H : Hp} {a : Addr} {xs : List V} (h : Seqs H a xs) : ∃ t, TyX K H (.ref a) t ∧ PySem.W.kitAny K t [.type "list", .type "tuple"] = some true := by
  rcases h with h | h
  · exact ⟨_, .base (.lst h), kitAny_cons (b := true) (kit_ty (by decide +kernel)) (fun z => nomatch z) (fun _ => rfl)⟩
  · exact ⟨_, .base (.tup h), kitAny_cons (b := false) (kit_ty (by decide +kernel)) (fun _ => kitAny_cons (b := true) (kit_ty (by decide +kernel)) (fun z => nomatch z) (fun _ => rfl)) (fun z => nomatch z)⟩
section
variable {P : Program} {w : World} {K : PySem.W.Frag} {mg : Str → Option Value} {base : Heap}
def spRowOf : Sp := fun vs H Q _ => ∃ (a : Addr) (xs : List V) (m : Nat), vs = [.ref a, .int (m : Int)] ∧ Seqs H a xs ∧ xs.length ≤ m ∧ ∀ r H', Same H H' → H' r = some (.lst xs) → H r = none → Q (.ref r) H'
theorem scRowOf : FnScope ["thing", "most"] ["thing", "most"] (defScope sRowOf) := ⟨rfl, rfl, rfl, by decide +kernel, rfl, by decide +kernel, by decide +kernel⟩
theorem fn_row_of (T : Tx K mg) : Fn P w K mg base 1 "row_of" ["thing", "most"] spRowOf := by
  obtain ⟨fd, F⟩ := T.d_RowOf
  refine ⟨fd, T.g_row_of, F.kp, F.bindsN fun _ _ _ _ _ _ us hl => match us, hl with | [_, _], _ => rfl, F.ok scRowOf (fun vs H Q E h => ?_) (fun cdv A outer s H vs Q E hr h => ?_)⟩
  · obtain ⟨a, xs, m, rfl, _⟩ := h
    rfl
  · obtain ⟨a, xs, m, rfl, hx, hl, k⟩ := h
    refine ⟨_, PSs.nox (pss_cons (ps_if (PW.pt (pw_or (pt_not (pt_val (pe_callB call_isiT rfl T.f_isinstance boot_isinstance (pa_cons (pv 0) (pa_cons (pe_tup (pa_cons (pe_bltn (v := .ty "list") rfl T.f_list (by decide +kernel) rfl) (pa_cons (pe_bltn (v := .ty "tuple") rfl T.f_tuple (by decide +kernel) rfl) pa_nil))) pa_nil)))))
        (pw_or1 (pt_cmpR op_gt (pe_callB call_len_seq rfl T.f_len boot_len (pa_cons (pv 0) pa_nil)) (pv 1) (nomark _))))) (pss_one ps_never) pss_nil)
      (pss_one (ps_ret (pe_callTy call_list_of rfl T.f_list boot_list (pa_cons (pv 0) pa_nil))))), ?_⟩
    refine ⟨_, rfl, (by show 2 ≤ sizeLine; decide), fun t ht => ?_⟩
    have s1 : Same H (upd H t (.tup [V.ty "list", V.ty "tuple"])) := same_upd ht
    have hx1 := hx.same s1
    obtain ⟨ty, h1, h2⟩ := hx1.ty (K := K)
    refine ⟨_, t, _, ty, _, true, rfl, upd_same, .cons (.ty _) (.cons (.ty _) .nil), h1, h2, true, rfl, iteF ?_⟩
    refine ⟨_, rfl, a, _, rfl, hx1.sq, _, rfl, _, _, rfl, rfl, _, rfl, ?_⟩
    rw [decide_eq_false (by omega : ¬ (m : Int) < (xs.length : Int))]
    refine iteF ⟨_, rfl, a, _, rfl, hx1.sq, fun l hl' => k l _ (s1.trans (same_upd hl')) upd_same (s1.free hl')⟩
def spPlacesOf : Sp := fun vs H Q _ => ∃ (n : Nat) (a : Addr) (l : List Nat), vs = [.ref a, .int (n : Int)] ∧ Seqs H a (l.map nV) ∧ l.length ≤ 60 ∧ (∀ x, x ∈ l → x < n) ∧ ∀ r H', Same H H' → H' r = some (.lst (l.map nV)) → H r = none → Q (.ref r) H'
theorem scPlacesOf : FnScope ["thing", "many", "row", "place"] ["thing", "many"] (defScope sPlacesOf) := ⟨rfl, rfl, rfl, by decide +kernel, rfl, by decide +kernel, by decide +kernel⟩
theorem fn_places_of (T : Tx K mg) : Fn P w K mg base 2 "places_of" ["thing", "many"] spPlacesOf := by
  obtain ⟨fd, F⟩ := T.d_PlacesOf
  refine ⟨fd, T.g_places_of, F.kp, F.bindsN fun _ _ _ _ _ _ us hl => match us, hl with | [_, _], _ => rfl, F.ok scPlacesOf (fun vs H Q E h => ?_) (fun cdv A outer s H vs Q E hr h => ?_)⟩
  · obtain ⟨n, a, l, rfl, _⟩ := h
    rfl
  · obtain ⟨n, a, l, rfl, hx, hl, hlt, k⟩ := h
    obtain ⟨tM, hM⟩ := T.i_MOST_PLACES_acts
    refine ⟨_, PSs.nox (pss_cons (ps_set (i := 2) scPlacesOf.nd rfl (Or.inl rfl) (pe_fn (fn_row_of T) hr rfl (pa_cons (pv 0) (pa_cons (pe_glob (v := .int 60) rfl hM ⟨tM, rfl⟩) pa_nil))))
      (pss_cons (ps_for PassesOwn.never rfl (pi_list (pv 2)) (pg_name (i := 3) scPlacesOf.nd rfl (Or.inl rfl))
        (pss_one (ps_if (PW.pt (pw_or (pt_not (pt_val (pe_fn (fn_is_whole T) hr rfl (pa_cons (pv 3) pa_nil)))) (pw_or (pt_cmpR op_lt (pv 3) pe_int (nomark _)) (pw_or1 (pt_cmpR op_ge (pv 3) (pv 1) (nomark _))))))
          (pss_one ps_never) pss_nil)))
      (pss_one (ps_ret (pv 2))))), ?_⟩
    refine ⟨_, rfl, a, _, 60, rfl, hx, by rw [List.length_map]; exact hl, fun r H1 s1 hr1 nr => ?_⟩
    refine ⟨_, rfl, r, rfl, ⟨_, SqL.of hr1⟩, for_list (K := K) (a := r) (xs := l.map nV) (fun i σ H2 => ∃ v : Option V, σ = [some (.ref a), some (.int (n : Int)), some (.ref r), v] ∧ H2 = H1) ⟨none, rfl, rfl⟩ (fun i σ H2 _ ⟨_, _, e⟩ => by rw [e]; exact SqL.of hr1) ?_ ?_⟩
    · rintro i y σ H2 hi ⟨v, rfl, rfl⟩
      obtain ⟨x, hx, rfl⟩ := map_get hi
      have hxn := hlt x (List.mem_of_getElem? hx)
      refine ⟨_, rfl, x, rfl, true, rfl, iteF ?_⟩
      refine ⟨_, rfl, _, _, rfl, rfl, _, rfl, ?_⟩
      rw [decide_eq_false (by omega : ¬ (x : Int) < 0)]
      refine iteF ⟨_, rfl, _, rfl, _, _, rfl, rfl, _, rfl, ?_⟩
      rw [decide_eq_false (by omega : ¬ (n : Int) ≤ (x : Int))]
      exact iteF ⟨_, rfl, rfl⟩
    · rintro σ H2 ⟨v, rfl, rfl⟩
      exact ⟨_, rfl, k r _ s1 hr1 nr⟩
def spInOrder : Sp := fun vs H Q _ => ∃ a b : Nat, vs = [nV a, nV b] ∧ ∀ r H', Same H H' → PairAt H' r (ordP (a, b)) → H r = none → Q (.ref r) H'
theorem scInOrder : FnScope ["one", "other"] ["one", "other"] (defScope sInOrder) := ⟨rfl, rfl, rfl, by decide +kernel, rfl, by decide +kernel, by decide +kernel⟩
theorem fn_in_order (T : Tx K mg) : Fn P w K mg base 1 "in_order" ["one", "other"] spInOrder := by
  obtain ⟨fd, F⟩ := T.d_InOrder
  refine ⟨fd, T.g_in_order, F.kp, F.bindsN fun _ _ _ _ _ _ us hl => match us, hl with | [_, _], _ => rfl, F.ok scInOrder (fun vs H Q E h => ?_) (fun cdv A outer s H vs Q E hr h => ?_)⟩
  · obtain ⟨a, b, rfl, _⟩ := h
    rfl
  · obtain ⟨a, b, rfl, k⟩ := h
    refine ⟨_, PSs.nox (pss_cons (ps_if (pt_cmpR op_lt (pv 1) (pv 0) (nomark _)) (pss_one (ps_ret (pe_tup (pa_cons (pv 1) (pa_cons (pv 0) pa_nil))))) pss_nil) (pss_one (ps_ret (pe_tup (pa_cons (pv 0) (pa_cons (pv 1) pa_nil)))))), ?_⟩
    refine ⟨_, rfl, _, rfl, _, _, rfl, rfl, _, rfl, ?_⟩
    by_cases e : b < a
    · rw [decide_eq_true (by omega : (b : Int) < (a : Int))]
      refine iteT ⟨_, rfl, _, rfl, (by show 2 ≤ sizeLine; decide), fun t ht => k t _ (same_upd ht) ?_ ht⟩
      unfold ordP
      rw [if_pos e]
      exact upd_same
    · rw [decide_eq_false (by omega : ¬ (b : Int) < (a : Int))]
      refine iteF ⟨_, rfl, _, rfl, (by show 2 ≤ sizeLine; decide), fun t ht => k t _ (same_upd ht) ?_ ht⟩
      unfold ordP
      rw [if_neg e]
      exact upd_same
def spPairOf : Sp := fun vs H Q _ => ∃ (n : Nat) (c : Addr) (a b : Nat), vs = [.ref c, .int (n : Int)] ∧ Seqs H c [nV a, nV b] ∧ a ≠ b ∧ a < n ∧ b < n ∧ ∀ r H', Same H H' → PairAt H' r (ordP (a, b)) → H r = none → Q (.ref r) H'
theorem scPairOf : FnScope ["thing", "many", "row"] ["thing", "many"] (defScope sPairOf) := ⟨rfl, rfl, rfl, by decide +kernel, rfl, by decide +kernel, by decide +kernel⟩
theorem fn_pair_of (T : Tx K mg) : Fn P w K mg base 3 "pair_of" ["thing", "many"] spPairOf := by
  obtain ⟨fd, F⟩ := T.d_PairOf
  refine ⟨fd, T.g_pair_of, F.kp, F.bindsN fun _ _ _ _ _ _ us hl => match us, hl with | [_, _], _ => rfl, F.ok scPairOf (fun vs H Q E h => ?_) (fun cdv A outer s H vs Q E hr h => ?_)⟩
  · obtain ⟨n, c, a, b, rfl, _⟩ := h
    rfl
  · obtain ⟨n, c, a, b, rfl, hx, hne, ha, hb, k⟩ := h
    refine ⟨_, PSs.nox (pss_cons (ps_set (i := 2) scPairOf.nd rfl (Or.inl rfl) (pe_fn (fn_places_of T) hr rfl (pa_cons (pv 0) (pa_cons (pv 1) pa_nil))))
      (pss_cons (ps_if (PW.pt (pw_or (pt_cmpR op_ne (pe_callB call_len_seq rfl T.f_len boot_len (pa_cons (pv 2) pa_nil)) pe_int (nomark _)) (pw_or1 (pt_cmpR op_eq (pe_ix ix_list (pv 2) pe_int (fun _ _ => rfl)) (pe_ix ix_list (pv 2) pe_int (fun _ _ => rfl)) (nomark _))))) (pss_one ps_never) pss_nil)
      (pss_one (ps_ret (pe_fn (fn_in_order T) (hr.mono (by decide)) rfl (pa_cons (pe_ix ix_list (pv 2) pe_int (fun _ _ => rfl)) (pa_cons (pe_ix ix_list (pv 2) pe_int (fun _ _ => rfl)) pa_nil))))))), ?_⟩
    refine ⟨_, rfl, _, rfl, n, c, [a, b], rfl, hx, (by show 2 ≤ 60; decide), fun x hx => ?_, fun r H1 s1 hr1 nr => ?_⟩
    · rcases List.mem_cons.mp hx with rfl | hx
      · exact ha
      · rw [List.mem_singleton.mp hx]; exact hb
    have hr1 : H1 r = some (.lst [nV a, nV b]) := hr1
    refine ⟨_, rfl, r, _, rfl, .inl (SqL.of hr1), rfl, _, rfl, iteF ?_⟩
    refine ⟨_, rfl, r, _, _, nV a, rfl, rfl, SqL.of hr1, rfl, _, rfl, r, _, _, nV b, rfl, rfl, SqL.of hr1, rfl, rfl, _, rfl, ?_⟩
    rw [decide_eq_false (fun e => hne (by
      have q := V.int.inj e
      omega))]
    refine iteF ⟨_, rfl, r, _, _, nV a, rfl, rfl, SqL.of hr1, rfl, _, rfl, r, _, _, nV b, rfl, rfl, SqL.of hr1, rfl, a, b, rfl, fun q H2 s2 hq nq => k q _ (s1.trans s2) hq (s1.free nq)⟩
end
end K43
/-! W11: the acts: __init__, looked. -/
namespace K43
open PySem PySem.Spec PyProof.Rows L2
def acC (K : PySem.W.Frag) : Kd → Addr
  | .places => He.ga K "Places"
  | .lists => He.ga K "Lists"
  | .sets => He.ga K "Sets"
  | .nets => He.ga K "Nets"
  | .turns => He.ga K "Turns"
def actF (n : Nat) : List (Str × V) := [("many", .int (n : Int))]
def ActAt (K : PySem.W.Frag) (H : Hp) (x : Addr) (k : Kd) (n : Nat) : Prop := ∃ dx, H x = some (.ins (acC K k) dx (actF n))
theorem actF_many (n : Nat) : (actF n).lookup ("many" : Str) = some (.int (n : Int)) := by rfl
theorem ActAt.same {K : PySem.W.Frag} {H H' : Hp} {x : Addr} {k : Kd} {n : Nat} (h : ActAt K H x k n) (s : Same H H') : ActAt K H' x k n := let ⟨dx, e⟩ := h; ⟨dx, s _ _ e⟩
/-- what is handed in for a thing -/
def RawAt (n : Nat) (H : Hp) : Kd → V → Th → Prop
  | .places, v, th => ∃ j, v = nV j ∧ th = .pl j ∧ j < n
  | .lists, v, th => ∃ a l, v = .ref a ∧ Seqs H a (l.map nV) ∧ th = .row l ∧ l.length ≤ 60 ∧ ∀ x, x ∈ l → x < n
  | .sets, v, th => ∃ a l, v = .ref a ∧ Seqs H a (l.map nV) ∧ th = .row (sortN l) ∧ l.length ≤ 60 ∧ (∀ x, x ∈ l → x < n) ∧ l.Nodup
  | .nets, v, th => ∃ a xs ps, v = .ref a ∧ Seqs H a xs ∧ Paired (fun (x : V) (p : Nat × Nat) => ∃ c, x = .ref c ∧ Seqs H c [nV p.1, nV p.2]) xs ps ∧ th = .net (sortP (ps.map ordP)) ∧ ps.length ≤ 60 ∧ (∀ p, p ∈ ps → p.1 ≠ p.2 ∧ p.1 < n ∧ p.2 < n) ∧ (ps.map ordP).Nodup
  | .turns, v, th => ∃ a p, v = .ref a ∧ PermAt H a p ∧ th = .row p ∧ IsP n p
theorem RawAt.same {n : Nat} {H H' : Hp} {k : Kd} {v : V} {th : Th} (h : RawAt n H k v th) (s : Same H H') : RawAt n H' k v th := by
  cases k with
  | places => exact h
  | lists => obtain ⟨a, l, e, q, r⟩ := h; exact ⟨a, l, e, q.same s, r⟩
  | sets => obtain ⟨a, l, e, q, r⟩ := h; exact ⟨a, l, e, q.same s, r⟩
  | nets => obtain ⟨a, xs, ps, e, q, p, r⟩ := h; exact ⟨a, xs, ps, e, q.same s, Paired.mapP p fun _ _ ⟨c, e, z⟩ => ⟨c, e, z.same s⟩, r⟩
  | turns => obtain ⟨a, p, e, q, r⟩ := h; exact ⟨a, p, e, s _ _ q, r⟩
theorem raw_pairs {H : Hp} : ∀ {bs : List Addr} {l : List (Nat × Nat)}, Paired (PairAt H) bs l → Paired (fun (x : V) (p : Nat × Nat) => ∃ c, x = V.ref c ∧ Seqs H c [nV p.1, nV p.2]) (bs.map V.ref) l
  | _, _, .nil => .nil
  | _, _, .cons h t => .cons ⟨_, rfl, .inr h⟩ (raw_pairs t)
theorem ordP_lt {l : List (Nat × Nat)} (h : ∀ p, p ∈ l → p.1 < p.2) : l.map ordP = l := by
  refine (List.map_congr_left fun p hp => ?_).trans (List.map_id l)
  unfold ordP
  rw [if_neg (by have := h p hp; omega)]
  rfl
/-- a thing in its own form may be handed in -/
theorem RawAt.own {n : Nat} {H : Hp} {k : Kd} {v : V} {th : Th} (h : ThAt H v th) (o : ThOk n k th) : RawAt n H k v th := by
  cases k <;> cases th <;> try exact o.elim
  · exact ⟨_, h, rfl, o⟩
  · obtain ⟨a, e, q⟩ := h
    exact ⟨a, _, e, .inr q, rfl, o.2, o.1⟩
  · obtain ⟨a, e, q⟩ := h
    refine ⟨a, _, e, .inr q, ?_, o.2.2.2, o.1, o.2.1⟩
    rw [← sortN_is (List.Perm.refl _) o.2.2.1]
  · obtain ⟨a, bs, e, q, p⟩ := h
    rename_i l
    have e2 : l.map ordP = l := ordP_lt fun p hp => (o.1 p hp).1
    refine ⟨a, _, l, e, .inr q, raw_pairs p, ?_, o.2.2.2, fun p hp => ?_, by rw [e2]; exact o.2.1⟩
    · rw [e2, ← sortP_is (List.Perm.refl _) o.2.2.1]
    · have := o.1 p hp
      omega
  · obtain ⟨a, e, q⟩ := h
    exact ⟨a, _, e, q, rfl, o⟩
theorem nV_map (l : List Nat) : l.map nV = (l.map fun k : Nat => (k : Int)).map V.int := by
  rw [List.map_map]
  rfl
theorem int_sort {l : List Nat} {ns : List Int} (h : ns.Perm (l.map fun k : Nat => (k : Int))) (hp : ns.Pairwise (· ≤ ·)) : ns = (sortN l).map fun k : Nat => (k : Int) := by
  refine List.Perm.eq_of_pairwise (le := fun a b : Int => a ≤ b) (fun a b _ _ h1 h2 => by omega) hp (List.pairwise_map.mpr ((sortN_le l).imp fun {a b} q => by omega)) (h.trans ((sortN_perm l).map _).symm)
section
variable {P : Program} {w : World} {K : PySem.W.Frag} {mg : Str → Option Value} {base : Heap}
def spActI (C : Addr) : Sp := fun vs H Q _ => ∃ (x dx : Addr) (n : Nat), vs = [.ref x, .int (n : Int)] ∧ H x = some (.ins C dx []) ∧ Q .non (upd H x (.ins C dx (actF n)))
theorem scPlacesI : FnScope ["self", "many"] ["self", "many"] (defScope sPlacesInit) := ⟨rfl, rfl, rfl, by decide +kernel, rfl, by decide +kernel, by decide +kernel⟩
theorem mc_Places (T : Tx K mg) : Mc P w K mg base 1 "Places" ["self", "many"] [] (spActI (He.ga K "Places")) := by
  obtain ⟨fd, F⟩ := T.d_PlacesInit
  refine ⟨fd, _, [], T.g_Places, T.k_Places, .nil, F.bindsN fun _ _ _ _ _ _ us hl => match us, hl with | [_, _], _ => rfl, F.ok scPlacesI (fun vs H Q E h => ?_) (fun cdv A outer s H vs Q E hr h => ?_)⟩
  · obtain ⟨x, dx, n, rfl, _⟩ := h
    rfl
  · obtain ⟨x, dx, n, rfl, hx, k⟩ := h
    refine ⟨_, PSs.nox (pss_one (ps_fld (pv 0) (pv 1) rfl)), ?_⟩
    exact ⟨_, rfl, _, rfl, x, _, dx, [], rfl, hx, T.c_Places, T.n_Places_many, (by show 0 < 1000; decide), k⟩
theorem scListsI : FnScope ["self", "many"] ["self", "many"] (defScope sListsInit) := ⟨rfl, rfl, rfl, by decide +kernel, rfl, by decide +kernel, by decide +kernel⟩
theorem mc_Lists (T : Tx K mg) : Mc P w K mg base 1 "Lists" ["self", "many"] [] (spActI (He.ga K "Lists")) := by
  obtain ⟨fd, F⟩ := T.d_ListsInit
  refine ⟨fd, _, [], T.g_Lists, T.k_Lists, .nil, F.bindsN fun _ _ _ _ _ _ us hl => match us, hl with | [_, _], _ => rfl, F.ok scListsI (fun vs H Q E h => ?_) (fun cdv A outer s H vs Q E hr h => ?_)⟩
  · obtain ⟨x, dx, n, rfl, _⟩ := h
    rfl
  · obtain ⟨x, dx, n, rfl, hx, k⟩ := h
    refine ⟨_, PSs.nox (pss_one (ps_fld (pv 0) (pv 1) rfl)), ?_⟩
    exact ⟨_, rfl, _, rfl, x, _, dx, [], rfl, hx, T.c_Lists, T.n_Lists_many, (by show 0 < 1000; decide), k⟩
theorem scSetsI : FnScope ["self", "many"] ["self", "many"] (defScope sSetsInit) := ⟨rfl, rfl, rfl, by decide +kernel, rfl, by decide +kernel, by decide +kernel⟩
theorem mc_Sets (T : Tx K mg) : Mc P w K mg base 1 "Sets" ["self", "many"] [] (spActI (He.ga K "Sets")) := by
  obtain ⟨fd, F⟩ := T.d_SetsInit
  refine ⟨fd, _, [], T.g_Sets, T.k_Sets, .nil, F.bindsN fun _ _ _ _ _ _ us hl => match us, hl with | [_, _], _ => rfl, F.ok scSetsI (fun vs H Q E h => ?_) (fun cdv A outer s H vs Q E hr h => ?_)⟩
  · obtain ⟨x, dx, n, rfl, _⟩ := h
    rfl
  · obtain ⟨x, dx, n, rfl, hx, k⟩ := h
    refine ⟨_, PSs.nox (pss_one (ps_fld (pv 0) (pv 1) rfl)), ?_⟩
    exact ⟨_, rfl, _, rfl, x, _, dx, [], rfl, hx, T.c_Sets, T.n_Sets_many, (by show 0 < 1000; decide), k⟩
theorem scNetsI : FnScope ["self", "many"] ["self", "many"] (defScope sNetsInit) := ⟨rfl, rfl, rfl, by decide +kernel, rfl, by decide +kernel, by decide +kernel⟩
theorem mc_Nets (T : Tx K mg) : Mc P w K mg base 1 "Nets" ["self", "many"] [] (spActI (He.ga K "Nets")) := by
  obtain ⟨fd, F⟩ := T.d_NetsInit
  refine ⟨fd, _, [], T.g_Nets, T.k_Nets, .nil, F.bindsN fun _ _ _ _ _ _ us hl => match us, hl with | [_, _], _ => rfl, F.ok scNetsI (fun vs H Q E h => ?_) (fun cdv A outer s H vs Q E hr h => ?_)⟩
  · obtain ⟨x, dx, n, rfl, _⟩ := h
    rfl
  · obtain ⟨x, dx, n, rfl, hx, k⟩ := h
    refine ⟨_, PSs.nox (pss_one (ps_fld (pv 0) (pv 1) rfl)), ?_⟩
    exact ⟨_, rfl, _, rfl, x, _, dx, [], rfl, hx, T.c_Nets, T.n_Nets_many, (by show 0 < 1000; decide), k⟩
theorem scTurnsI : FnScope ["self", "many"] ["self", "many"] (defScope sTurnsInit) := ⟨rfl, rfl, rfl, by decide +kernel, rfl, by decide +kernel, by decide +kernel⟩
theorem mc_Turns (T : Tx K mg) : Mc P w K mg base 1 "Turns" ["self", "many"] [] (spActI (He.ga K "Turns")) := by
  obtain ⟨fd, F⟩ := T.d_TurnsInit
  refine ⟨fd, _, [], T.g_Turns, T.k_Turns, .nil, F.bindsN fun _ _ _ _ _ _ us hl => match us, hl with | [_, _], _ => rfl, F.ok scTurnsI (fun vs H Q E h => ?_) (fun cdv A outer s H vs Q E hr h => ?_)⟩
  · obtain ⟨x, dx, n, rfl, _⟩ := h
    rfl
  · obtain ⟨x, dx, n, rfl, hx, k⟩ := h
    refine ⟨_, PSs.nox (pss_one (ps_fld (pv 0) (pv 1) rfl)), ?_⟩
    exact ⟨_, rfl, _, rfl, x, _, dx, [], rfl, hx, T.c_Turns, T.n_Turns_many, (by show 0 < 1000; decide), k⟩
def spLooked (K : PySem.W.Frag) (k : Kd) : Sp := fun vs H Q _ => ∃ (n : Nat) (x : Addr) (v : V) (th : Th), vs = [.ref x, v] ∧ ActAt K H x k n ∧ RawAt n H k v th ∧ 1 ≤ n ∧ n ≤ 60 ∧ ∀ r H', Same H H' → ThAt H' r th → Q r H'
theorem scPlacesL : FnScope ["self", "thing"] ["self", "thing"] (defScope sPlacesLooked) := ⟨rfl, rfl, rfl, by decide +kernel, rfl, by decide +kernel, by decide +kernel⟩
theorem me_looked_places (T : Tx K mg) : Me P w K mg base 2 (He.ga K "Places") "looked" ["self", "thing"] (spLooked K .places) := by
  obtain ⟨fd, F⟩ := T.d_PlacesLooked
  refine ⟨fd, _, T.c_Places, T.m_Places_looked, F.bindsN fun _ _ _ _ _ _ us hl => match us, hl with | [_, _], _ => rfl, F.ok scPlacesL (fun vs H Q E h => ?_) (fun cdv A outer s H vs Q E hr h => ?_)⟩
  · obtain ⟨n, x, v, th, rfl, _⟩ := h
    rfl
  · obtain ⟨n, x, v, th, rfl, ⟨dx, hx⟩, ⟨j, rfl, rfl, hj⟩, h1, h60, k⟩ := h
    refine ⟨_, PSs.nox (pss_cons (ps_if (PW.pt (pw_or (pt_not (pt_val (pe_fn (fn_is_whole T) (hr.mono (by decide)) rfl (pa_cons (pv 1) pa_nil)))) (pw_or (pt_cmpR op_lt (pv 1) pe_int (nomark _)) (pw_or1 (pt_cmpR op_ge (pv 1) (pe_fld (pv 0) rfl) (nomark _)))))) (pss_one ps_never) pss_nil)
      (pss_one (ps_ret (pv 1)))), ?_⟩
    refine ⟨_, rfl, j, rfl, true, rfl, iteF ?_⟩
    refine ⟨_, rfl, _, _, rfl, rfl, _, rfl, ?_⟩
    rw [decide_eq_false (by omega : ¬ (j : Int) < 0)]
    refine iteF ⟨_, rfl, _, rfl, x, _, dx, _, _, rfl, hx, T.c_Places, T.n_Places_many, actF_many n, _, _, rfl, rfl, _, rfl, ?_⟩
    rw [decide_eq_false (by omega : ¬ (n : Int) ≤ (j : Int))]
    exact iteF ⟨_, rfl, k _ _ (.refl _) rfl⟩
theorem scListsL : FnScope ["self", "thing"] ["self", "thing"] (defScope sListsLooked) := ⟨rfl, rfl, rfl, by decide +kernel, rfl, by decide +kernel, by decide +kernel⟩
theorem me_looked_lists (T : Tx K mg) : Me P w K mg base 3 (He.ga K "Lists") "looked" ["self", "thing"] (spLooked K .lists) := by
  obtain ⟨fd, F⟩ := T.d_ListsLooked
  refine ⟨fd, _, T.c_Lists, T.m_Lists_looked, F.bindsN fun _ _ _ _ _ _ us hl => match us, hl with | [_, _], _ => rfl, F.ok scListsL (fun vs H Q E h => ?_) (fun cdv A outer s H vs Q E hr h => ?_)⟩
  · obtain ⟨n, x, v, th, rfl, _⟩ := h
    rfl
  · obtain ⟨n, x, v, th, rfl, ⟨dx, hx⟩, ⟨a, l, rfl, hs, rfl, hl, hlt⟩, h1, h60, k⟩ := h
    refine ⟨_, PSs.nox (pss_one (ps_ret (pe_callTy call_tuple_of rfl T.f_tuple boot_tup (pa_cons (pe_fn (fn_places_of T) hr rfl (pa_cons (pv 1) (pa_cons (pe_fld (pv 0) rfl) pa_nil))) pa_nil)))), ?_⟩
    refine ⟨_, rfl, _, rfl, x, _, dx, _, _, rfl, hx, T.c_Lists, T.n_Lists_many, actF_many n, n, a, l, rfl, hs, hl, hlt, fun r H1 s1 hr1 nr => ?_⟩
    exact ⟨r, _, rfl, .inl ⟨SqL.of hr1, fun t ht => k _ _ (s1.trans (same_upd ht)) ⟨t, rfl, upd_same⟩⟩⟩
theorem scSetsL : FnScope ["self", "thing", "row"] ["self", "thing"] (defScope sSetsLooked) := ⟨rfl, rfl, rfl, by decide +kernel, rfl, by decide +kernel, by decide +kernel⟩
theorem me_looked_sets (T : Tx K mg) : Me P w K mg base 3 (He.ga K "Sets") "looked" ["self", "thing"] (spLooked K .sets) := by
  obtain ⟨fd, F⟩ := T.d_SetsLooked
  refine ⟨fd, _, T.c_Sets, T.m_Sets_looked, F.bindsN fun _ _ _ _ _ _ us hl => match us, hl with | [_, _], _ => rfl, F.ok scSetsL (fun vs H Q E h => ?_) (fun cdv A outer s H vs Q E hr h => ?_)⟩
  · obtain ⟨n, x, v, th, rfl, _⟩ := h
    rfl
  · obtain ⟨n, x, v, th, rfl, ⟨dx, hx⟩, ⟨a, l, rfl, hs, rfl, hl, hlt, hnd⟩, h1, h60, k⟩ := h
    refine ⟨_, PSs.nox (pss_cons (ps_set (i := 2) scSetsL.nd rfl (Or.inl rfl) (pe_fn (fn_places_of T) hr rfl (pa_cons (pv 1) (pa_cons (pe_fld (pv 0) rfl) pa_nil))))
      (pss_cons (ps_if (pt_cmpR op_lt (pe_lenSetI rfl rfl T.f_len rfl T.f_set (pv 2)) (pe_callB call_len_seq rfl T.f_len boot_len (pa_cons (pv 2) pa_nil)) (nomark _)) (pss_one ps_never) pss_nil)
      (pss_one (ps_ret (pe_callTy call_tuple_of rfl T.f_tuple boot_tup (pa_cons (pe_callB cr_sortedI rfl T.f_sorted PyProof.Rows.boot_sorted (pa_cons (pv 2) pa_nil)) pa_nil)))))), ?_⟩
    refine ⟨_, rfl, _, rfl, x, _, dx, _, _, rfl, hx, T.c_Sets, T.n_Sets_many, actF_many n, n, a, l, rfl, hs, hl, hlt, fun r H1 s1 hr1 nr => ?_⟩
    have hr2 : H1 r = some (.lst ((l.map fun k : Nat => (k : Int)).map V.int)) := by rw [← nV_map]; exact hr1
    refine ⟨_, rfl, r, _, rfl, SqL.of hr2, by rw [List.length_map]; omega, List.nodup_iff_pairwise_ne.mpr (List.pairwise_map.mpr ((List.nodup_iff_pairwise_ne.mp hnd).imp fun {a b} hab e => hab (by omega))), _, rfl, r, _, rfl, .inl (SqL.of hr1), _, _, rfl, rfl, _, rfl, ?_⟩
    rw [decide_eq_false (by rw [List.length_map, List.length_map]; omega)]
    refine iteF ⟨_, rfl, r, _, rfl, SqL.of hr2, fun ns q hp hpw hq => ?_⟩
    have e := int_sort hp hpw
    subst e
    refine ⟨q, _, rfl, .inl ⟨SqL.of upd_same, fun t ht => k _ _ ((s1.trans (same_upd hq)).trans (same_upd ht)) ⟨t, rfl, ?_⟩⟩⟩
    show upd _ t _ t = _
    rw [upd_same, ← nV_map]
theorem scNetsL : FnScope ["self", "thing", "pairs", "pair"] ["self", "thing"] (defScope sNetsLooked) := ⟨rfl, rfl, rfl, by decide +kernel, rfl, by decide +kernel, by decide +kernel⟩
theorem me_looked_nets (T : Tx K mg) : Me P w K mg base 4 (He.ga K "Nets") "looked" ["self", "thing"] (spLooked K .nets) := by
  obtain ⟨fd, F⟩ := T.d_NetsLooked
  refine ⟨fd, _, T.c_Nets, T.m_Nets_looked, F.bindsN fun _ _ _ _ _ _ us hl => match us, hl with | [_, _], _ => rfl, F.ok scNetsL (fun vs H Q E h => ?_) (fun cdv A outer s H vs Q E hr h => ?_)⟩
  · obtain ⟨n, x, v, th, rfl, _⟩ := h
    rfl
  · obtain ⟨n, x, v, th, rfl, ⟨dx, hx⟩, ⟨a, xs, ps, rfl, hs, hps, rfl, hl, hlt, hnd⟩, h1, h60, k⟩ := h
    obtain ⟨tM, hM⟩ := T.i_MOST_PAIRS
    refine ⟨_, PSs.nox (pss_cons (ps_setLc (i := 2) (own := [("pair", 3)]) (g := gName 3) (tt := tYes) (te := tCall spPairOf [] E0 (tCons (tVar 3) (tCons (tFld K (tVar 0) "many") tNil))) rfl scNetsL.nd rfl rfl (sw_true rfl rfl rfl (by decide +kernel))
          (pi_list (pe_fn (fn_row_of T) (hr.mono (by decide)) rfl (pa_cons (pv 1) (pa_cons (pe_glob (v := .int 200) rfl hM ⟨tM, rfl⟩) pa_nil)))) (blkOk_by (own := [("pair", 3)]) (N := ["self", "thing", "pairs", "pair"]) (sc := defScope sNetsLooked) (by decide +kernel))
          (fun _ _ _ _ _ => pg_name (i := 3) scNetsL.nd rfl (Or.inl rfl)) (fun _ _ _ _ _ => pts_nil) (fun _ _ _ _ _ => pe_fn (fn_pair_of T) hr rfl (pa_cons (pv 3) (pa_cons (pe_fld (pv 0) rfl) pa_nil))))
      (pss_cons (ps_if (pt_cmpR op_lt (pe_lenSetP rfl hr.units rfl T.f_len rfl T.f_set (pv 2)) (pe_callB call_len_seq rfl T.f_len boot_len (pa_cons (pv 2) pa_nil)) (nomark _)) (pss_one ps_never) pss_nil)
      (pss_one (ps_ret (pe_callTy call_tuple_of rfl T.f_tuple boot_tup (pa_cons (pe_callB (cr_sortedPr hr.units) rfl T.f_sorted PyProof.Rows.boot_sorted (pa_cons (pv 2) pa_nil)) pa_nil)))))), ?_⟩
    have hxl : xs.length = ps.length := Paired.length hps
    refine ⟨_, rfl, a, xs, 200, rfl, hs, by omega, fun r H1 s1 hr1 nr => ⟨r, rfl, ⟨_, SqL.of hr1⟩, fun D hD => lc_list (K := K) (a := r) (xs := xs)
      (fun i H2 => ∃ bs : List Addr, Same H1 H2 ∧ H2 D = some (.lst (bs.map V.ref)) ∧ Paired (PairAt H2) bs ((ps.map ordP).take i)) ⟨[], same_upd hD, upd_same, .nil⟩ (fun i H2 _ ⟨_, e, _⟩ => SqL.of (e _ _ hr1)) ?_ ?_⟩⟩
    · rintro i y H2 hi ⟨bs, sm, hD2, pp⟩
      obtain ⟨p, hp, c, rfl, hc⟩ := paired_get' hps hi
      obtain ⟨g1, g2, g3⟩ := hlt p (List.mem_of_getElem? hp)
      have hin := (List.getElem?_eq_some_iff.mp hp).1
      refine ⟨rfl, _, rfl, _, rfl, x, _, dx, _, _, rfl, sm _ _ (s1 _ _ hx), T.c_Nets, T.n_Nets_many, actF_many n, n, c, p.1, p.2, rfl, hc.same (s1.trans sm), g1, g2, g3, fun q H3 s3 hq nq => ?_⟩
      have keep : ∀ o, Same H1 (upd H3 D o) := fun o b u e => by
        rw [upd_ne (ne_of_none e hD)]
        exact s3 _ _ (sm _ _ e)
      have hbl : bs.length = i := by
        have := Paired.length pp
        rw [this, List.length_take, List.length_map]
        omega
      have hD3 := s3 _ _ hD2
      have tu : Tups H3 (upd H3 D (.lst (bs.map V.ref ++ [V.ref q]))) := Tups.upd hD3 fun _ z => nomatch z
      refine ⟨_, hD3, by rw [List.length_map, hbl, sizeLine_eq]; omega, bs ++ [q], keep _, by rw [List.map_append]; exact upd_same, ?_⟩
      rw [List.take_add_one, List.getElem?_map, hp]
      exact paired_append (Paired.mapP pp fun _ _ z => tu _ _ (s3 _ _ z)) (.cons (tu _ _ hq) .nil)
    · rintro H2 ⟨bs, sm, hD2, pp⟩
      rw [hxl, List.take_of_length_le (by rw [List.length_map]; exact Nat.le_refl _)] at pp
      have hbl : bs.length = ps.length := by
        have := Paired.length pp
        rw [this, List.length_map]
      refine ⟨_, rfl, D, bs, _, rfl, SqL.of hD2, pp, by rw [List.length_map]; omega, hnd, _, rfl, D, _, rfl, .inl (SqL.of hD2), _, _, rfl, rfl, _, rfl, ?_⟩
      rw [decide_eq_false (by rw [List.length_map, List.length_map, hbl]; omega)]
      refine iteF ⟨_, rfl, D, bs, _, rfl, SqL.of hD2, pp, by rw [List.length_map]; omega, fun q cs hq pc => ⟨q, _, rfl, .inl ⟨SqL.of upd_same, fun t ht => ?_⟩⟩⟩
      have s2 : Same H2 (upd (upd H2 q (.lst (cs.map V.ref))) t (.tup (cs.map V.ref))) := (same_upd hq).trans (same_upd ht)
      exact k _ _ (s1.trans (sm.trans s2)) ⟨t, cs, rfl, upd_same, Paired.mapP pc fun _ _ z => s2 _ _ z⟩
theorem scTurnsL : FnScope ["self", "thing"] ["self", "thing"] (defScope sTurnsLooked) := ⟨rfl, rfl, rfl, by decide +kernel, rfl, by decide +kernel, by decide +kernel⟩
theorem me_looked_turns (T : Tx K mg) : Me P w K mg base 3 (He.ga K "Turns") "looked" ["self", "thing"] (spLooked K .turns) := by
  obtain ⟨fd, F⟩ := T.d_TurnsLooked
  refine ⟨fd, _, T.c_Turns, T.m_Turns_looked, F.bindsN fun _ _ _ _ _ _ us hl => match us, hl with | [_, _], _ => rfl, F.ok scTurnsL (fun vs H Q E h => ?_) (fun cdv A outer s H vs Q E hr h => ?_)⟩
  · obtain ⟨n, x, v, th, rfl, _⟩ := h
    rfl
  · obtain ⟨n, x, v, th, rfl, ⟨dx, hx⟩, ⟨a, p, rfl, hp, rfl, ip⟩, h1, h60, k⟩ := h
    refine ⟨_, PSs.nox (pss_cons (ps_if (PW.pt (pw_or (pt_not (pt_val (pe_fn (fn_is_turning T) hr rfl (pa_cons (pv 1) pa_nil)))) (pw_or1 (pt_cmpR op_ne (pe_callB call_len_seq rfl T.f_len boot_len (pa_cons (pv 1) pa_nil)) (pe_fld (pv 0) rfl) (nomark _))))) (pss_one ps_never) pss_nil)
      (pss_one (ps_ret (pv 1)))), ?_⟩
    refine ⟨_, rfl, n, a, p, rfl, hp, ip, h1, h60, fun H1 s1 => ⟨true, rfl, iteF ?_⟩⟩
    refine ⟨_, rfl, a, _, rfl, .inr (SqT.of (s1 _ _ hp)), _, rfl, x, _, dx, _, _, rfl, s1 _ _ hx, T.c_Turns, T.n_Turns_many, actF_many n, rfl, _, rfl, ?_⟩
    have e : decide (V.int (((p.map nV).length : Nat) : Int) = V.int (n : Int)) = true := decide_eq_true (by rw [List.length_map, ip.len])
    rw [e]
    exact iteF ⟨_, rfl, k _ _ s1 ⟨a, rfl, s1 _ _ hp⟩⟩
end
end K43
/-! W12: the acts: moved. -/
namespace K43
open PySem PySem.Spec PyProof.Rows L2
section
variable {P : Program} {w : World} {K : PySem.W.Frag} {mg : Str → Option Value} {base : Heap}
def spMoved (k : Kd) : Sp := fun vs H Q _ => ∃ (n : Nat) (x t : Addr) (v : V) (th : Th) (g : Pn n), vs = [.ref x, v, .ref t] ∧ ThAt H v th ∧ ThOk n k th ∧ PermAt H t g.1 ∧ n ≤ 60 ∧ ∀ r H', Same H H' → ThAt H' r (mv k th g) → Q r H'
theorem scPlacesM : FnScope ["self", "thing", "t"] ["self", "thing", "t"] (defScope sPlacesMoved) := ⟨rfl, rfl, rfl, by decide +kernel, rfl, by decide +kernel, by decide +kernel⟩
theorem ix_perm {n : Nat} {g : Pn n} {j : Nat} (h : j < n) : atI (g.1.map nV) (j : Int) = some (nV (ap g.1 j)) :=
  atI_natV (v := nV (ap g.1 j)) (by rw [List.getElem?_map, ap_get (by rw [g.2.len]; exact h)]; rfl)
theorem me_moved_places (T : Tx K mg) : Me P w K mg base 1 (He.ga K "Places") "moved" ["self", "thing", "t"] (spMoved .places) := by
  obtain ⟨fd, F⟩ := T.d_PlacesMoved
  refine ⟨fd, _, T.c_Places, T.m_Places_moved, F.bindsN fun _ _ _ _ _ _ us hl => match us, hl with | [_, _, _], _ => rfl, F.ok scPlacesM (fun vs H Q E h => ?_) (fun cdv A outer s H vs Q E hr h => ?_)⟩
  · obtain ⟨n, x, t, v, th, g, rfl, _⟩ := h
    rfl
  · obtain ⟨n, x, t, v, th, g, rfl, hv, ho, ht, h60, k⟩ := h
    refine ⟨_, PSs.nox (pss_one (ps_ret (pe_ix ix_tup (pv 2) (pv 1) (fun _ _ => rfl)))), ?_⟩
    match th, hv, ho, k with
    | .pl j, hv, ho, k =>
      have hv : v = nV j := hv
      subst hv
      exact ⟨_, rfl, _, rfl, t, _, _, _, rfl, rfl, SqT.of ht, ix_perm ho, k _ _ (.refl _) rfl⟩
abbrev mN : List Str := ["self", "thing", "t", "place"]
theorem scListsM : FnScope mN ["self", "thing", "t"] (defScope sListsMoved) := ⟨rfl, rfl, rfl, by decide +kernel, rfl, by decide +kernel, by decide +kernel⟩
theorem me_moved_lists (T : Tx K mg) : Me P w K mg base 1 (He.ga K "Lists") "moved" ["self", "thing", "t"] (spMoved .lists) := by
  obtain ⟨fd, F⟩ := T.d_ListsMoved
  refine ⟨fd, _, T.c_Lists, T.m_Lists_moved, F.bindsN fun _ _ _ _ _ _ us hl => match us, hl with | [_, _, _], _ => rfl, F.ok scListsM (fun vs H Q E h => ?_) (fun cdv A outer s H vs Q E hr h => ?_)⟩
  · obtain ⟨n, x, t, v, th, g, rfl, _⟩ := h
    rfl
  · obtain ⟨n, x, t, v, th, g, rfl, hv, ho, ht, h60, k⟩ := h
    refine ⟨_, PSs.nox (pss_one (ps_ret (pe_callTy call_tuple_of rfl T.f_tuple boot_tup (pa_cons
      (pe_lc (own := [("place", 3)]) (g := gName 3) (tt := tYes) rfl scListsM.nd (pi_tup (pv 1)) (blkOk_by (own := [("place", 3)]) (N := mN) (sc := defScope sListsMoved) (by decide +kernel))
        (fun _ _ _ _ _ => pg_name (i := 3) scListsM.nd rfl (Or.inl rfl)) (fun _ _ _ _ _ => pts_nil) (fun _ _ _ _ _ => pe_ix (r := rIxT K) ix_tup (pv 2) (pv 3) (fun _ _ => rfl))) pa_nil)))), ?_⟩
    match th, hv, ho, k with
    | .row l, ⟨a, e, ha⟩, ho, k =>
      subst e
      refine ⟨_, rfl, a, rfl, ⟨_, SqT.of ha⟩, fun D hD => lc_tup (K := K) (a := a) (xs := l.map nV) (fun i H2 => H2 = upd H D (.lst ((l.take i).map fun x => nV (ap g.1 x)))) rfl (fun i H2 _ e => by rw [e]; exact SqT.of (same_upd hD _ _ ha)) ?_ ?_⟩
      · rintro i y H2 hi rfl
        obtain ⟨j, hj, rfl⟩ := map_get hi
        have hin := (List.getElem?_eq_some_iff.mp hj).1
        refine ⟨rfl, _, rfl, _, rfl, t, _, _, _, rfl, rfl, SqT.of (same_upd hD _ _ ht), ix_perm (ho.1 j (List.mem_of_getElem? hj)), _, upd_same, ?_, ?_⟩
        · have := ho.2
          rw [List.length_map, List.length_take, sizeLine_eq]
          omega
        · rw [upd_upd, List.take_add_one, hj, List.map_append]
          rfl
      · rintro H2 rfl
        refine ⟨D, _, rfl, .inl ⟨SqL.of upd_same, fun q hq => k _ _ ((same_upd hD).trans (same_upd hq)) ⟨q, rfl, ?_⟩⟩⟩
        show upd _ q _ q = _
        rw [upd_same, List.length_map, List.take_length, List.map_map]
        rfl
theorem scSetsM : FnScope mN ["self", "thing", "t"] (defScope sSetsMoved) := ⟨rfl, rfl, rfl, by decide +kernel, rfl, by decide +kernel, by decide +kernel⟩
theorem me_moved_sets (T : Tx K mg) : Me P w K mg base 1 (He.ga K "Sets") "moved" ["self", "thing", "t"] (spMoved .sets) := by
  obtain ⟨fd, F⟩ := T.d_SetsMoved
  refine ⟨fd, _, T.c_Sets, T.m_Sets_moved, F.bindsN fun _ _ _ _ _ _ us hl => match us, hl with | [_, _, _], _ => rfl, F.ok scSetsM (fun vs H Q E h => ?_) (fun cdv A outer s H vs Q E hr h => ?_)⟩
  · obtain ⟨n, x, t, v, th, g, rfl, _⟩ := h
    rfl
  · obtain ⟨n, x, t, v, th, g, rfl, hv, ho, ht, h60, k⟩ := h
    refine ⟨_, PSs.nox (pss_one (ps_ret (pe_callTy call_tuple_of rfl T.f_tuple boot_tup (pa_cons (pe_callB cr_sortedI rfl T.f_sorted PyProof.Rows.boot_sorted (pa_cons
      (pe_lc (own := [("place", 3)]) (g := gName 3) (tt := tYes) rfl scSetsM.nd (pi_tup (pv 1)) (blkOk_by (own := [("place", 3)]) (N := mN) (sc := defScope sSetsMoved) (by decide +kernel))
        (fun _ _ _ _ _ => pg_name (i := 3) scSetsM.nd rfl (Or.inl rfl)) (fun _ _ _ _ _ => pts_nil) (fun _ _ _ _ _ => pe_ix (r := rIxT K) ix_tup (pv 2) (pv 3) (fun _ _ => rfl))) pa_nil)) pa_nil)))), ?_⟩
    match th, hv, ho, k with
    | .row l, ⟨a, e, ha⟩, ho, k =>
      subst e
      refine ⟨_, rfl, a, rfl, ⟨_, SqT.of ha⟩, fun D hD => lc_tup (K := K) (a := a) (xs := l.map nV) (fun i H2 => H2 = upd H D (.lst ((l.take i).map fun x => nV (ap g.1 x)))) rfl (fun i H2 _ e => by rw [e]; exact SqT.of (same_upd hD _ _ ha)) ?_ ?_⟩
      · rintro i y H2 hi rfl
        obtain ⟨j, hj, rfl⟩ := map_get hi
        have hin := (List.getElem?_eq_some_iff.mp hj).1
        refine ⟨rfl, _, rfl, _, rfl, t, _, _, _, rfl, rfl, SqT.of (same_upd hD _ _ ht), ix_perm (ho.1 j (List.mem_of_getElem? hj)), _, upd_same, ?_, ?_⟩
        · have := ho.2.2.2
          rw [List.length_map, List.length_take, sizeLine_eq]
          omega
        · rw [upd_upd, List.take_add_one, hj, List.map_append]
          rfl
      · rintro H2 rfl
        have e1 : ((l.take (l.map nV).length).map fun x => nV (ap g.1 x)) = (((l.map (ap g.1)).map fun k : Nat => (k : Int)).map V.int) := by
          rw [List.length_map, List.take_length, List.map_map, List.map_map]
          rfl
        rw [e1]
        refine ⟨D, _, rfl, SqL.of upd_same, fun ns q hp hpw hq => ?_⟩
        have e := int_sort hp hpw
        subst e
        refine ⟨q, _, rfl, .inl ⟨SqL.of upd_same, fun u hu => k _ _ (((same_upd hD).trans (same_upd hq)).trans (same_upd hu)) ⟨u, rfl, ?_⟩⟩⟩
        show upd _ u _ u = _
        rw [upd_same, ← nV_map]
abbrev mN2 : List Str := ["self", "thing", "t", "one", "other"]
theorem scNetsM : FnScope mN2 ["self", "thing", "t"] (defScope sNetsMoved) := ⟨rfl, rfl, rfl, by decide +kernel, rfl, by decide +kernel, by decide +kernel⟩
theorem me_moved_nets (T : Tx K mg) : Me P w K mg base 2 (He.ga K "Nets") "moved" ["self", "thing", "t"] (spMoved .nets) := by
  obtain ⟨fd, F⟩ := T.d_NetsMoved
  refine ⟨fd, _, T.c_Nets, T.m_Nets_moved, F.bindsN fun _ _ _ _ _ _ us hl => match us, hl with | [_, _, _], _ => rfl, F.ok scNetsM (fun vs H Q E h => ?_) (fun cdv A outer s H vs Q E hr h => ?_)⟩
  · obtain ⟨n, x, t, v, th, g, rfl, _⟩ := h
    rfl
  · obtain ⟨n, x, t, v, th, g, rfl, hv, ho, ht, h60, k⟩ := h
    refine ⟨_, PSs.nox (pss_one (ps_ret (pe_callTy call_tuple_of rfl T.f_tuple boot_tup (pa_cons (pe_callB (cr_sortedPr hr.units) rfl T.f_sorted PyProof.Rows.boot_sorted (pa_cons
      (pe_lc (own := [("one", 3), ("other", 4)]) (g := gTup K 2 (gCons (gName 3) (gCons (gName 4) gNil))) (tt := tYes) (te := tCall spInOrder [] E0 (tCons (tOp (rIxT K) (tVar 2) (tVar 3)) (tCons (tOp (rIxT K) (tVar 2) (tVar 4)) tNil))) rfl scNetsM.nd (pi_tup (pv 1)) (blkOk_by (own := [("one", 3), ("other", 4)]) (N := mN2) (sc := defScope sNetsMoved) (by decide +kernel))
        (fun _ _ _ _ _ => pg_tup rfl (pgs_cons (pg_name (i := 3) scNetsM.nd rfl (Or.inl rfl)) (pgs_cons (pg_name (i := 4) scNetsM.nd rfl (Or.inl rfl)) pgs_nil))) (fun _ _ _ _ _ => pts_nil)
        (fun _ _ _ _ _ => pe_fn (fn_in_order T) hr rfl (pa_cons (pe_ix (r := rIxT K) ix_tup (pv 2) (pv 3) (fun _ _ => rfl)) (pa_cons (pe_ix (r := rIxT K) ix_tup (pv 2) (pv 4) (fun _ _ => rfl)) pa_nil)))) pa_nil)) pa_nil)))), ?_⟩
    match th, hv, ho, k with
    | .net l, ⟨a, bs, e, ha, hbs⟩, ho, k =>
      subst e
      have hbl : bs.length = l.length := Paired.length hbs
      refine ⟨_, rfl, a, rfl, ⟨_, SqT.of ha⟩, fun D hD => lc_tup (K := K) (a := a) (xs := bs.map V.ref) (fun i H2 => ∃ cs : List Addr, Same H H2 ∧ H2 D = some (.lst (cs.map V.ref)) ∧ Paired (PairAt H2) cs ((l.map fun p => ordP (ap g.1 p.1, ap g.1 p.2)).take i)) ⟨[], same_upd hD, upd_same, .nil⟩ (fun i H2 _ ⟨_, e, _⟩ => SqT.of (e _ _ ha)) ?_ ?_⟩
      · rintro i y H2 hi ⟨cs, sm, hD2, pp⟩
        obtain ⟨b, hb, rfl⟩ := map_get hi
        obtain ⟨p, hp, hpb⟩ := paired_get' hbs hb
        obtain ⟨g1, g2⟩ := ho.1 p (List.mem_of_getElem? hp)
        have hin := (List.getElem?_eq_some_iff.mp hp).1
        refine ⟨b, _, rfl, SqT.of (sm _ _ hpb), rfl, nV p.1, _, rfl, nV p.2, _, rfl, rfl, rfl, ?_⟩
        refine ⟨_, rfl, _, rfl, t, _, _, _, rfl, rfl, SqT.of (sm _ _ ht), ix_perm (by omega), _, rfl, _, rfl, t, _, _, _, rfl, rfl, SqT.of (sm _ _ ht), ix_perm g2, ap g.1 p.1, ap g.1 p.2, rfl, fun q H3 s3 hq nq => ?_⟩
        have keep : ∀ o, Same H (upd H3 D o) := fun o b u e => by
          rw [upd_ne (ne_of_none e hD)]
          exact s3 _ _ (sm _ _ e)
        have hcl : cs.length = i := by
          have := Paired.length pp
          rw [this, List.length_take, List.length_map]
          omega
        have hD3 := s3 _ _ hD2
        have tu : Tups H3 (upd H3 D (.lst (cs.map V.ref ++ [V.ref q]))) := Tups.upd hD3 fun _ z => nomatch z
        have := ho.2.2.2
        refine ⟨_, hD3, by rw [List.length_map, hcl, sizeLine_eq]; omega, cs ++ [q], keep _, by rw [List.map_append]; exact upd_same, ?_⟩
        rw [List.take_add_one, List.getElem?_map, hp]
        exact paired_append (Paired.mapP pp fun _ _ z => tu _ _ (s3 _ _ z)) (.cons (tu _ _ hq) .nil)
      · rintro H2 ⟨cs, sm, hD2, pp⟩
        rw [List.length_map, hbl, List.take_of_length_le (by rw [List.length_map]; exact Nat.le_refl _)] at pp
        have := ho.2.2.2
        refine ⟨D, cs, _, rfl, SqL.of hD2, pp, by rw [List.length_map]; omega, fun q ds hq pc => ⟨q, _, rfl, .inl ⟨SqL.of upd_same, fun u hu => ?_⟩⟩⟩
        have s2 : Same H2 (upd (upd H2 q (.lst (ds.map V.ref))) u (.tup (ds.map V.ref))) := (same_upd hq).trans (same_upd hu)
        exact k _ _ (sm.trans s2) ⟨u, ds, rfl, upd_same, Paired.mapP pc fun _ _ z => s2 _ _ z⟩
theorem scTurnsM : FnScope ["self", "thing", "t"] ["self", "thing", "t"] (defScope sTurnsMoved) := ⟨rfl, rfl, rfl, by decide +kernel, rfl, by decide +kernel, by decide +kernel⟩
theorem me_moved_turns (T : Tx K mg) : Me P w K mg base 2 (He.ga K "Turns") "moved" ["self", "thing", "t"] (spMoved .turns) := by
  obtain ⟨fd, F⟩ := T.d_TurnsMoved
  refine ⟨fd, _, T.c_Turns, T.m_Turns_moved, F.bindsN fun _ _ _ _ _ _ us hl => match us, hl with | [_, _, _], _ => rfl, F.ok scTurnsM (fun vs H Q E h => ?_) (fun cdv A outer s H vs Q E hr h => ?_)⟩
  · obtain ⟨n, x, t, v, th, g, rfl, _⟩ := h
    rfl
  · obtain ⟨n, x, t, v, th, g, rfl, hv, ho, ht, h60, k⟩ := h
    refine ⟨_, PSs.nox (pss_one (ps_ret (pe_fn (fn_turned T) hr rfl (pa_cons (pv 1) (pa_cons (pv 2) pa_nil))))), ?_⟩
    match th, hv, ho, k with
    | .row l, ⟨a, e, ha⟩, ho, k =>
      subst e
      exact ⟨_, rfl, _, rfl, n, a, t, l, g.1, rfl, ha, ht, ho, g.2, h60, fun c H1 s1 hc => k _ _ s1 ⟨c, rfl, hc⟩⟩
/-! any kind -/
theorem me_looked (T : Tx K mg) (k : Kd) : Me P w K mg base 4 (acC K k) "looked" ["self", "thing"] (spLooked K k) := by
  cases k
  · exact (me_looked_places T).mono (by decide)
  · exact (me_looked_lists T).mono (by decide)
  · exact (me_looked_sets T).mono (by decide)
  · exact me_looked_nets T
  · exact (me_looked_turns T).mono (by decide)
theorem me_moved (T : Tx K mg) (k : Kd) : Me P w K mg base 2 (acC K k) "moved" ["self", "thing", "t"] (spMoved k) := by
  cases k
  · exact (me_moved_places T).mono (by decide)
  · exact (me_moved_lists T).mono (by decide)
  · exact (me_moved_sets T).mono (by decide)
  · exact me_moved_nets T
  · exact me_moved_turns T
theorem ac_cls (T : Tx K mg) (k : Kd) : Cls K (acC K k) := by
  cases k
  · exact T.c_Places
  · exact T.c_Lists
  · exact T.c_Sets
  · exact T.c_Nets
  · exact T.c_Turns
theorem ac_many (T : Tx K mg) (k : Kd) : NoAttr K (acC K k) "many" := by
  cases k
  · exact T.n_Places_many
  · exact T.n_Lists_many
  · exact T.n_Sets_many
  · exact T.n_Nets_many
  · exact T.n_Turns_many
end
end K43
/-! M6: the ring: what is found, how it grows, the ways. -/
namespace K43
open PySem PySem.Spec PyProof.Rows L2
abbrev Row : Type := Th × Option (Th × Nat)
section
variable {n : Nat}
structure RInv (kd : Kd) (ms : List (Pn n)) (t0 : Th) (es : List Row) : Prop where
  nd : (es.map (·.1)).Nodup
  hd : es[0]? = some (t0, none)
  row : ∀ (i : Nat) (th p : Th) (k : Nat), es[i]? = some (th, some (p, k)) → ∃ (j : Nat) (m : Pn n) (q : Option (Th × Nat)), j < i ∧ es[j]? = some (p, q) ∧ ms[k]? = some m ∧ th = mv kd p m
  non : ∀ (i : Nat) (th : Th), es[i]? = some (th, none) → i = 0
variable {kd : Kd} {ms : List (Pn n)} {t0 : Th} {es : List Row}
theorem RInv.zero (kd : Kd) (ms : List (Pn n)) (t0 : Th) : RInv kd ms t0 [(t0, none)] where
  nd := by simp
  hd := rfl
  row := fun i th p k h => by
    cases i with
    | zero => exact nomatch (show some (t0, (none : Option (Th × Nat))) = some (th, some (p, k)) from h)
    | succ i => exact nomatch h
  non := fun i th h => by
    cases i with
    | zero => rfl
    | succ i => exact nomatch h
theorem RInv.reach (I : RInv kd ms t0 es) (o : ThOk n kd t0) : ∀ (i : Nat) (th : Th) (q : Option (Th × Nat)), es[i]? = some (th, q) → ∃ g : Pn n, Gen (fun m => m ∈ ms) g ∧ th = mv kd t0 g := by
  intro i
  induction i using Nat.strongRecOn with
  | _ i ih =>
    intro th q h
    cases q with
    | none =>
      have e := I.non i th h
      subst e
      rw [I.hd] at h
      have e := (Prod.mk.inj (Option.some.inj h)).1
      exact ⟨Pn.one n, .one, by rw [← e, mv_one o]⟩
    | some q =>
      obtain ⟨p, k⟩ := q
      obtain ⟨j, m, q', hj, hp, hm, rfl⟩ := I.row i th p k h
      obtain ⟨g, hg, rfl⟩ := ih j hj p q' hp
      exact ⟨g * m, .mul hg (.base (List.mem_of_getElem? hm)), mv_mul o g m⟩
theorem RInv.ok (I : RInv kd ms t0 es) (o : ThOk n kd t0) {th : Th} (h : th ∈ es.map (·.1)) : ThOk n kd th := by
  obtain ⟨e, he, rfl⟩ := List.mem_map.mp h
  obtain ⟨i, hi⟩ := List.mem_iff_getElem?.mp he
  obtain ⟨g, _, eq⟩ := I.reach o i e.1 e.2 hi
  rw [eq]
  exact mv_ok o g
theorem RInv.few {w : List Nat} (I : RInv kd ms t0 es) (o : ThOk n kd t0) (hw : w.Nodup) (h4 : w.length ≤ 4) (hm : ∀ m, m ∈ ms → Win w m) : es.length ≤ 24 := by
  have q := few_things hw h4 (k := kd) (th := t0) I.nd fun x hx => by
    obtain ⟨e, he, rfl⟩ := List.mem_map.mp hx
    obtain ⟨i, hi⟩ := List.mem_iff_getElem?.mp he
    obtain ⟨g, hg, eq⟩ := I.reach o i e.1 e.2 hi
    exact ⟨g, fun j hj => hg.fixes fun m hm' => hm m hm' j hj, eq⟩
  rw [List.length_map] at q
  exact q
theorem RInv.add (I : RInv kd ms t0 es) {p : Th} {q : Option (Th × Nat)} {j k : Nat} {m : Pn n} (hp : es[j]? = some (p, q)) (hm : ms[k]? = some m) (hn : mv kd p m ∉ es.map (·.1)) : RInv kd ms t0 (es ++ [(mv kd p m, some (p, k))]) where
  nd := by
    rw [List.map_append]
    exact List.nodup_append.mpr ⟨I.nd, by simp, fun a ha b hb e => hn (by
      have hb : b ∈ [mv kd p m] := hb
      have z := List.mem_singleton.mp hb
      rw [← z, ← e]
      exact ha)⟩
  hd := by
    have := (List.getElem?_eq_some_iff.mp I.hd).1
    rw [List.getElem?_append_left this]
    exact I.hd
  row := fun i th p' k' h => by
    by_cases hi : i < es.length
    · rw [List.getElem?_append_left hi] at h
      obtain ⟨j', m', q', h1, h2, h3⟩ := I.row i th p' k' h
      exact ⟨j', m', q', h1, by rw [List.getElem?_append_left (by omega)]; exact h2, h3⟩
    · rw [List.getElem?_append_right (by omega)] at h
      have e : i - es.length = 0 := by
        by_cases z : i - es.length = 0
        · exact z
        · rw [List.getElem?_eq_none (by simp; omega)] at h
          exact nomatch h
      rw [e] at h
      have h : some (mv kd p m, some (p, k)) = some (th, some (p', k')) := h
      obtain ⟨e1, e2⟩ := Prod.mk.inj (Option.some.inj h)
      obtain ⟨e3, e4⟩ := Prod.mk.inj (Option.some.inj e2)
      subst e1 e3 e4
      have hj := (List.getElem?_eq_some_iff.mp hp).1
      exact ⟨j, m, q, by omega, by rw [List.getElem?_append_left hj]; exact hp, hm, rfl⟩
  non := fun i th h => by
    by_cases hi : i < es.length
    · rw [List.getElem?_append_left hi] at h
      exact I.non i th h
    · rw [List.getElem?_append_right (by omega)] at h
      by_cases z : i - es.length = 0
      · rw [z] at h
        exact nomatch (show some (mv kd p m, some (p, k)) = some (th, none) from h)
      · rw [List.getElem?_eq_none (by simp; omega)] at h
        exact nomatch h
/-- all moved so far are found -/
def Cl (kd : Kd) (ms : List (Pn n)) (es : List Row) (at_ kk : Nat) : Prop :=
  (∀ (j : Nat) (th : Th) (q : Option (Th × Nat)), j < at_ → es[j]? = some (th, q) → ∀ m, m ∈ ms → mv kd th m ∈ es.map (·.1)) ∧ ∀ th q, es[at_]? = some (th, q) → ∀ m, m ∈ ms.take kk → mv kd th m ∈ es.map (·.1)
theorem Cl.next {at_ : Nat} (c : Cl kd ms es at_ ms.length) : Cl kd ms es (at_ + 1) 0 := by
  refine ⟨fun j th q hj h m hm => ?_, fun th q _ m hm => by rw [List.take_zero] at hm; exact nomatch hm⟩
  by_cases e : j < at_
  · exact c.1 j th q e h m hm
  · have e : j = at_ := by omega
    subst e
    exact c.2 th q h m (by rw [List.take_length]; exact hm)
theorem Cl.stay {at_ k : Nat} {m : Pn n} {p : Th} {q : Option (Th × Nat)} (c : Cl kd ms es at_ k) (hp : es[at_]? = some (p, q)) (hm : ms[k]? = some m) (h : mv kd p m ∈ es.map (·.1)) : Cl kd ms es at_ (k + 1) := by
  refine ⟨c.1, fun th q' ht m' hm' => ?_⟩
  rw [hp] at ht
  have e := (Prod.mk.inj (Option.some.inj ht)).1
  subst e
  rw [List.take_add_one, hm] at hm'
  rcases List.mem_append.mp hm' with z | z
  · exact c.2 p q hp m' z
  · have z : m' ∈ [m] := z
    rw [List.mem_singleton.mp z]
    exact h
theorem Cl.grow {at_ k : Nat} {e : Row} (c : Cl kd ms es at_ k) (hl : at_ < es.length) : Cl kd ms (es ++ [e]) at_ k := by
  refine ⟨fun j th q hj h m hm => ?_, fun th q h m hm => ?_⟩
  · rw [List.getElem?_append_left (by omega)] at h
    rw [List.map_append]
    exact List.mem_append_left _ (c.1 j th q hj h m hm)
  · rw [List.getElem?_append_left hl] at h
    rw [List.map_append]
    exact List.mem_append_left _ (c.2 th q h m hm)
theorem Cl.done (c : Cl kd ms es es.length 0) {th : Th} (h : th ∈ es.map (·.1)) {m : Pn n} (hm : m ∈ ms) : mv kd th m ∈ es.map (·.1) := by
  obtain ⟨e, he, rfl⟩ := List.mem_map.mp h
  obtain ⟨i, hi⟩ := List.mem_iff_getElem?.mp he
  exact c.1 i e.1 e.2 (List.getElem?_eq_some_iff.mp hi).1 hi m hm
/-! ways -/
def mk_ (ms : List (Pn n)) (k : Nat) : Pn n := (ms[k]?).getD (Pn.one n)
def pr (ms : List (Pn n)) : List Nat → Pn n
  | [] => Pn.one n
  | k :: ks => mk_ ms k * pr ms ks
theorem pr_snoc (ms : List (Pn n)) : ∀ (ks : List Nat) (k : Nat), pr ms (ks ++ [k]) = pr ms ks * mk_ ms k
  | [], k => by
    show mk_ ms k * Pn.one n = Pn.one n * mk_ ms k
    rw [mul_one, one_mul]
  | a :: ks, k => by
    show mk_ ms a * pr ms (ks ++ [k]) = mk_ ms a * pr ms ks * mk_ ms k
    rw [pr_snoc ms ks k, mul_assoc]
theorem mk_at {k : Nat} {m : Pn n} (h : ms[k]? = some m) : mk_ ms k = m := by
  unfold mk_
  rw [h]
  rfl
theorem pr_gen {ks : List Nat} (h : ∀ k, k ∈ ks → k < ms.length) : Gen (fun m => m ∈ ms) (pr ms ks) := by
  induction ks with
  | nil => exact .one
  | cons k ks ih =>
    have hk := h k List.mem_cons_self
    refine .mul (.base ?_) (ih fun j hj => h j (List.mem_cons_of_mem _ hj))
    rw [mk_at (List.getElem?_eq_getElem hk)]
    exact List.getElem_mem hk
end
/-! the rows in the heap -/
def RowR (H : Hp) (v : V) : Option (Th × Nat) → Prop
  | none => v = .non
  | some (p, k) => ∃ t pv, v = .ref t ∧ H t = some (.tup [pv, nV k]) ∧ ThAt H pv p
def EntR (H : Hp) (x : Ent) (e : Row) : Prop := x.1 = e.1 ∧ RowR H x.2.2 e.2
theorem EntR.tups {H H' : Hp} {x : Ent} {e : Row} (h : EntR H x e) (s : Tups H H') : EntR H' x e := by
  refine ⟨h.1, ?_⟩
  have h2 := h.2
  obtain ⟨t, o⟩ := e
  cases o with
  | none => exact h2
  | some q =>
    obtain ⟨t, pv, e, a, b⟩ := h2
    exact ⟨t, pv, e, s _ _ a, b.tups s⟩
theorem ents_keys {H : Hp} : ∀ {kvs : List Ent} {es : List Row}, Paired (EntR H) kvs es → kvs.map (·.1) = es.map (·.1)
  | _, _, .nil => rfl
  | _, _, .cons h t => by rw [List.map_cons, List.map_cons, h.1, ents_keys t]
theorem lk_none_ : ∀ {kvs : List Ent} {t : Th}, t ∉ kvs.map (·.1) → lkT kvs t = none
  | [], _, _ => rfl
  | x :: kvs, t, h => by
    unfold lkT
    rw [List.find?_cons, decide_eq_false (fun e => h (by rw [List.map_cons, e]; exact List.mem_cons_self))]
    exact lk_none_ fun q => h (by rw [List.map_cons]; exact List.mem_cons_of_mem _ q)
theorem lk_some_ : ∀ {kvs : List Ent} {i : Nat} {x : Ent}, (kvs.map (·.1)).Nodup → kvs[i]? = some x → lkT kvs x.1 = some x.2.2
  | [], _, _, _, h => nomatch h
  | y :: kvs, 0, x, _, h => by
    have e : y = x := Option.some.inj h
    subst e
    unfold lkT
    rw [List.find?_cons, decide_eq_true rfl]
    rfl
  | y :: kvs, i + 1, x, hn, h => by
    rw [List.map_cons, List.nodup_cons] at hn
    have h : kvs[i]? = some x := h
    unfold lkT
    rw [List.find?_cons, decide_eq_false (fun e => hn.1 (by rw [e]; exact List.mem_map.mpr ⟨x, List.mem_of_getElem? h, rfl⟩))]
    exact lk_some_ hn.2 h
end K43
/-! W13: Ring.spread. -/
namespace K43
open PySem PySem.Spec PyProof.Rows L2
theorem room16 {k : Nat} {A : Around} (r : Room k A) : A.units + 16 < cLine := by
  have := r.units
  omega
def kdS : Kd → Nat
  | .places => 0
  | .nets => 2
  | _ => 1
theorem shp_ok {n : Nat} {k : Kd} {th : Th} (h : ThOk n k th) : shp th = kdS k := by
  cases k <;> cases th <;> first | rfl | exact h.elim
def ringF (gx ax mx d : Addr) : List (Str × V) := [("group", .ref gx), ("act", .ref ax), ("makers", .ref mx), ("rows", .ref d)]
theorem ringF_group (gx ax mx d : Addr) : (ringF gx ax mx d).lookup ("group" : Str) = some (.ref gx) := by rfl
theorem ringF_act (gx ax mx d : Addr) : (ringF gx ax mx d).lookup ("act" : Str) = some (.ref ax) := by rfl
theorem ringF_makers (gx ax mx d : Addr) : (ringF gx ax mx d).lookup ("makers" : Str) = some (.ref mx) := by rfl
theorem ringF_rows (gx ax mx d : Addr) : (ringF gx ax mx d).lookup ("rows" : Str) = some (.ref d) := by rfl
structure RA where
  x : Addr
  dx : Addr
  gx : Addr
  ax : Addr
  mx : Addr
  d : Addr
/-- what a ring leans on, but its rows -/
structure RB (K : PySem.W.Frag) (H : Hp) (A : RA) (kd : Kd) {n : Nat} (ms : List (Pn n)) (xs : List V) : Prop where
  ob : H A.x = some (.ins (He.ga K "Ring") A.dx (ringF A.gx A.ax A.mx A.d))
  gr : ∃ dg gfs, H A.gx = some (.ins (He.ga K "Group") dg gfs) ∧ gfs.lookup ("many" : Str) = some (.int (n : Int))
  ac : ActAt K H A.ax kd n
  mks : H A.mx = some (.lst xs)
  ps : PsRel H xs ms
/-- the rows -/
structure RR (P : Program) (w : World) (H : Hp) (d : Addr) (kd : Kd) {n : Nat} (ms : List (Pn n)) (t0 : Th) (kvs : List Ent) (es : List Row) : Prop where
  rd : RD P w H d kvs (kdS kd)
  ent : Paired (EntR H) kvs es
  inv : RInv kd ms t0 es
  ok0 : ThOk n kd t0
section
variable {P : Program} {w : World} {K : PySem.W.Frag} {mg : Str → Option Value} {base : Heap} {n : Nat} {H H' : Hp} {A : RA} {kd : Kd} {ms : List (Pn n)} {xs : List V} {d : Addr} {t0 : Th} {kvs : List Ent} {es : List Row}
/-- all but some addresses that are no part of it -/
theorem RB.keep (h : RB K H A kd ms xs) (tu : Tups H H') (k1 : ∀ C dx fs b, H b = some (.ins C dx fs) → H' b = some (.ins C dx fs)) (k2 : ∀ o, H A.mx = some o → H' A.mx = some o) : RB K H' A kd ms xs :=
  ⟨k1 _ _ _ _ h.ob, let ⟨dg, gfs, a, b⟩ := h.gr; ⟨dg, gfs, k1 _ _ _ _ a, b⟩, let ⟨dx, a⟩ := h.ac; ⟨dx, k1 _ _ _ _ a⟩, k2 _ h.mks, h.ps.tups tu⟩
theorem RB.same (h : RB K H A kd ms xs) (s : Same H H') : RB K H' A kd ms xs := h.keep (.same s) (fun _ _ _ _ e => s _ _ e) fun _ e => s _ _ e
theorem RR.keep (h : RR P w H d kd ms t0 kvs es) (tu : Tups H H') (k : ∀ o, H d = some o → H' d = some o) : RR P w H' d kd ms t0 kvs es :=
  ⟨h.rd.ex tu k, Paired.mapP h.ent fun _ _ z => z.tups tu, h.inv, h.ok0⟩
theorem RR.same (h : RR P w H d kd ms t0 kvs es) (s : Same H H') : RR P w H' d kd ms t0 kvs es := h.keep (.same s) fun _ e => s _ _ e
theorem RR.keys (h : RR P w H d kd ms t0 kvs es) : kvs.map (·.1) = es.map (·.1) := ents_keys h.ent
theorem RR.nd (h : RR P w H d kd ms t0 kvs es) : (kvs.map (·.1)).Nodup := by rw [h.keys]; exact h.inv.nd
theorem RR.len (h : RR P w H d kd ms t0 kvs es) : kvs.length = es.length := Paired.length h.ent
theorem RR.ne (h : RR P w H d kd ms t0 kvs es) : kvs ≠ [] := fun z => by
  have e := h.inv.hd
  have l := h.len
  rw [z] at l
  have := (List.getElem?_eq_some_iff.mp e).1
  rw [← l] at this
  exact absurd this (Nat.not_lt_zero _)
theorem RR.at_ (h : RR P w H d kd ms t0 kvs es) {i : Nat} (hi : i < es.length) : ∃ th v r o, kvs[i]? = some (th, v, r) ∧ es[i]? = some (th, o) ∧ ThAt H v th ∧ ThOk n kd th ∧ RowR H r o := by
  have hi2 : i < kvs.length := by rw [h.len]; exact hi
  have e1 : kvs[i]? = some kvs[i] := List.getElem?_eq_getElem hi2
  obtain ⟨e, he, hr⟩ := paired_get' h.ent e1
  obtain ⟨th, o⟩ := e
  have h1 : kvs[i].1 = th := hr.1
  refine ⟨th, kvs[i].2.1, kvs[i].2.2, o, by rw [e1, ← h1], he, ?_, ?_, hr.2⟩
  · rw [← h1]
    exact h.rd.th _ (List.getElem_mem hi2)
  · exact h.inv.ok h.ok0 (List.mem_map.mpr ⟨(th, o), List.mem_of_getElem? he, rfl⟩)
def spSpread (P : Program) (w : World) (K : PySem.W.Frag) (kd : Kd) : Sp := fun vs H Q _ => ∃ (n : Nat) (A : RA) (ms : List (Pn n)) (xs : List V) (win : List Nat) (t0 : Th) (kvs : List Ent), vs = [.ref A.x, .int 1000] ∧ RB K H A kd ms xs ∧ RR P w H A.d kd ms t0 kvs [(t0, none)] ∧
  (∀ m, m ∈ ms → Win win m) ∧ win.Nodup ∧ win.length ≤ 4 ∧ n ≤ 60 ∧ ms.length ≤ 50 ∧
  ∀ H' kvs' es', (∀ b o, H b = some o → b ≠ A.d → H' b = some o) → RR P w H' A.d kd ms t0 kvs' es' → Cl kd ms es' es'.length 0 → Q .non H'
abbrev spreadN : List Str := ["self", "most", "found", "at", "thing", "k", "maker", "other"]
theorem scSpread : FnScope spreadN ["self", "most"] (defScope sRingSpread) := ⟨rfl, rfl, rfl, by decide +kernel, rfl, by decide +kernel, by decide +kernel⟩
theorem me_spread (T : Tx K mg) (kd : Kd) : Me P w K mg base 3 (He.ga K "Ring") "spread" ["self", "most"] (spSpread P w K kd) := by
  obtain ⟨fd, F⟩ := T.d_RingSpread
  refine ⟨fd, _, T.c_Ring, T.m_Ring_spread, F.bindsN fun _ _ _ _ _ _ us hl => match us, hl with | [_, _], _ => rfl, F.ok scSpread (fun vs H Q E h => ?_) (fun cdv A0 outer s0 H vs Q E hr h => ?_)⟩
  · obtain ⟨n, A, ms, xs, win, t0, kvs, rfl, _⟩ := h
    rfl
  · obtain ⟨n, A, ms, xs, win, t0, kvs, rfl, hB, hR, hw, hwn, hw4, h60, hml, k⟩ := h
    refine ⟨_, PSs.nox (
      pss_cons (ps_set (i := 2) scSpread.nd rfl (Or.inl rfl) (pe_callTy (call_listRD rfl) rfl T.f_list boot_list (pa_cons (pe_fld (pv 0) rfl) pa_nil))) <|
      pss_cons (ps_set (i := 3) scSpread.nd rfl (Or.inl rfl) pe_int) <|
      pss_one (ps_while PassesOwn.never (pt_cmpR op_lt (pv 3) (pe_callB call_len_seq rfl T.f_len boot_len (pa_cons (pv 2) pa_nil)) (nomark _)) (
        pss_cons (ps_set (i := 4) scSpread.nd rfl (Or.inl rfl) (pe_ix ix_list (pv 2) (pv 3) (fun _ _ => rfl))) <|
        pss_cons (ps_for PassesOwn.never rfl (pi_enum rfl T.f_enumerate (pa_cons (pe_fld (pv 0) rfl) pa_nil)) (pg_tup rfl (pgs_cons (pg_name (i := 5) scSpread.nd rfl (Or.inl rfl)) (pgs_cons (pg_name (i := 6) scSpread.nd rfl (Or.inl rfl)) pgs_nil)))
          (pss_cons (ps_set (i := 7) scSpread.nd rfl (Or.inl rfl) (pe_me (me_moved T kd) (pe_fld (pv 0) rfl) hr (pa_cons (pv 4) (pa_cons (pv 6) pa_nil)))) <|
           pss_one (ps_if (pt_cmpR (op_notInT (room16 hr)) (pv 7) (pe_fld (pv 0) rfl) (by rfl))
             (pss_cons (ps_if (pt_cmpR op_ge (pe_callB call_len_seq rfl T.f_len boot_len (pa_cons (pv 2) pa_nil)) (pv 1) (nomark _)) (pss_one ps_never) pss_nil) <|
              pss_cons (ps_putT (room16 hr) (pe_fld (pv 0) rfl) (pv 7) (pe_tup (pa_cons (pv 4) (pa_cons (pv 5) pa_nil))) (by rfl)) <|
              pss_one (ps_expr (pe_bm PySem.F.plainAttrs_list PySem.F.slot_list_append PySem.F.type_list_append mt_append (pv 2) (pa_cons (pv 7) pa_nil))))
             pss_nil))) <|
        pss_one (ps_set (i := 3) scSpread.nd rfl (Or.inl rfl) (pe_op op_add (pv 3) pe_int))))), ?_⟩
    obtain ⟨dg, gfs, hg, hgm⟩ := hB.gr
    obtain ⟨dxa, hax⟩ := hB.ac
    have hxl : xs.length = ms.length := Paired.length hB.ps
    -- found = list(self.rows)
    refine ⟨_, rfl, A.x, _, A.dx, _, _, rfl, hB.ob, T.c_Ring, T.n_Ring_rows, ringF_rows _ _ _ _, A.d, kvs, _, rfl, hR.rd, by rw [hR.len]; show 1 ≤ 1000; decide, fun F hF => ?_⟩
    have hdF : A.d ≠ F := by
      obtain ⟨u, e, _⟩ := hR.rd.obj
      exact ne_of_none e hF
    have s0 : Same H (upd H F (.lst (kvs.map fun x => x.2.1))) := same_upd hF
    have xF : A.x ≠ F := ne_of_none hB.ob hF
    -- at = 0; while at < len(found)
    let Wd : Nat → L2.St → Hp → Prop := fun μ σ H' => ∃ (at_ : Nat) (kvs' : List Ent) (es' : List Row) (v4 v5 v6 v7 : Option V), σ = [some (.ref A.x), some (.int 1000), some (.ref F), some (.int (at_ : Int)), v4, v5, v6, v7] ∧
      (∀ b o, H b = some o → b ≠ A.d → H' b = some o) ∧ H' F = some (.lst (kvs'.map fun x => x.2.1)) ∧ RR P w H' A.d kd ms t0 kvs' es' ∧ Cl kd ms es' at_ 0 ∧ at_ ≤ es'.length ∧ μ = 25 - at_
    have tupsOf : ∀ {H' : Hp}, (∀ b o, H b = some o → b ≠ A.d → H' b = some o) → Tups H H' := fun {H'} kp b ys e => kp b _ e (by
      obtain ⟨u, eu, h1, _⟩ := hR.rd.obj
      exact ne_of e eu fun z => h1 ys z.symm)
    have keepB : ∀ {H' : Hp}, (∀ b o, H b = some o → b ≠ A.d → H' b = some o) → RB K H' A kd ms xs := fun {H'} kp => by
      obtain ⟨u, eu, h1, h2, h3⟩ := hR.rd.obj
      exact hB.keep (tupsOf kp) (fun C dx fs b e => kp b _ e (ne_of e eu fun z => h3 _ _ _ z.symm)) fun o e => kp _ _ e (by
        have e2 := hB.mks
        exact ne_of e2 eu fun z => h2 _ z.symm)
    refine ⟨Wd, ⟨_, 0, kvs, _, none, none, none, none, rfl, fun b o e _ => s0 _ _ e, upd_same, hR.same s0, ⟨fun j th q hj => absurd hj (Nat.not_lt_zero j), fun th q _ m hm => by rw [List.take_zero] at hm; exact nomatch hm⟩, Nat.zero_le _, rfl⟩, ?_⟩
    rintro μ σ H1 ⟨at_, kv1, es1, v4, v5, v6, v7, rfl, kp1, hF1, R1, C1, hat, rfl⟩
    have few : es1.length ≤ 24 := R1.inv.few R1.ok0 hwn hw4 hw
    refine ⟨_, rfl, _, rfl, F, _, rfl, .inl (SqL.of hF1), _, _, rfl, rfl, _, rfl, ?_⟩
    refine ite2 (fun hlt => ?_) (fun hge => ?_)
    · have hlt : at_ < es1.length := by
        have q := of_decide_eq_true hlt
        rw [List.length_map, R1.len] at q
        omega
      refine ⟨fun σ' H' => ∃ μ', μ' < 25 - at_ ∧ Wd μ' σ' H', fun σ' H' h => h, ?_⟩
      obtain ⟨th, v, r, o, hk1, he1, hth, oth, hrow⟩ := R1.at_ hlt
      have B1 := keepB kp1
      refine ⟨_, rfl, _, rfl, F, _, _, v, rfl, rfl, SqL.of hF1, atI_natV (by rw [List.getElem?_map, hk1]; rfl), ?_⟩
      refine ⟨_, rfl, A.x, _, A.dx, _, _, rfl, B1.ob, T.c_Ring, T.n_Ring_makers, ringF_makers _ _ _ _, A.mx, xs, rfl, SqL.of B1.mks, for_it (walk_enum (xs := xs))
        (fun i σ H2 => ∃ (kv2 : List Ent) (es2 : List Row) (v5 v6 v7 : Option V), σ = [some (.ref A.x), some (.int 1000), some (.ref F), some (.int (at_ : Int)), some v, v5, v6, v7] ∧ (∀ b o, H b = some o → b ≠ A.d → H2 b = some o) ∧
          H2 F = some (.lst (kv2.map fun x => x.2.1)) ∧ RR P w H2 A.d kd ms t0 kv2 es2 ∧ Cl kd ms es2 at_ i ∧ es2[at_]? = some (th, o) ∧ ThAt H2 v th)
        ⟨kv1, es1, v5, v6, v7, rfl, kp1, hF1, R1, C1, he1, hth⟩ (fun i σ H2 _ ⟨_, _, _, _, _, _, kp, _⟩ => SqL.of (keepB kp).mks) ?_ ?_⟩
      · rintro i x σ H2 H3 hi ⟨kv2, es2, v5, v6, v7, rfl, kp2, hF2, R2, C2, he2, hth2⟩ ⟨Tp, vi, vm, rfl, hTp, rfl, ei, em⟩
        cases ei
        have B2 := keepB kp2
        obtain ⟨m, hm, a, rfl, ha⟩ := paired_get' B2.ps em
        have few2 : es2.length ≤ 24 := R2.inv.few R2.ok0 hwn hw4 hw
        have hat2 : at_ < es2.length := (List.getElem?_eq_some_iff.mp he2).1
        have s3 : Same H2 (upd H2 Tp (.tup [.int (i : Int), .ref a])) := same_upd hTp
        have hT3 : (upd H2 Tp (.tup [.int (i : Int), .ref a])) Tp = some (.tup [.int (i : Int), .ref a]) := upd_same
        generalize (upd H2 Tp (.tup [.int (i : Int), .ref a])) = H3 at s3 hT3
        have B3 := B2.same s3
        obtain ⟨dxa3, hax3⟩ := B3.ac
        refine ⟨Tp, _, rfl, SqT.of hT3, rfl, _, _, rfl, _, _, rfl, rfl, ?_⟩
        -- other = self.act.moved(thing, maker)
        refine ⟨_, rfl, A.x, _, A.dx, _, _, rfl, B3.ob, T.c_Ring, T.n_Ring_act, ringF_act _ _ _ _, A.ax, dxa3, _, rfl, hax3, rfl, _, rfl, _, rfl, ?_⟩
        refine ⟨n, A.ax, a, v, th, m, rfl, hth2.tups (.same s3), oth, s3 _ _ ha, h60, fun u H4 s4 hu4 => ?_⟩
        have s24 := s3.trans s4
        have B4 := B3.same s4
        have R4 := R2.same s24
        have hF4 := s24 _ _ hF2
        have kp4 : ∀ b o, H b = some o → b ≠ A.d → H4 b = some o := fun b o e hb => s24 _ _ (kp2 b o e hb)
        have om : ThOk n kd (mv kd th m) := mv_ok oth m
        -- if other not in self.rows
        refine ⟨_, rfl, _, rfl, A.x, _, A.dx, _, _, rfl, B4.ob, T.c_Ring, T.n_Ring_rows, ringF_rows _ _ _ _, A.d, kv2, _, _, rfl, R4.rd, R4.ne, hu4, shp_ok om, _, rfl, ?_⟩
        by_cases hin : mv kd th m ∈ es2.map (·.1)
        · have hin2 := hin
          rw [← R4.keys] at hin2
          obtain ⟨ent, hent, ee⟩ := List.mem_map.mp hin2
          obtain ⟨j, hj⟩ := List.mem_iff_getElem?.mp hent
          have l := lk_some_ R4.nd hj
          rw [ee] at l
          rw [l]
          refine iteF ⟨kv2, es2, _, _, _, rfl, kp4, hF4, R4, C2.stay he2 hm hin, he2, hth2.tups (.same s24)⟩
        · have l : lkT kv2 (mv kd th m) = none := lk_none_ (by rw [R4.keys]; exact hin)
          rw [l]
          refine iteT ?_
          have R5 := R2.inv.add he2 hm hin
          have few5 := R5.few R4.ok0 hwn hw4 hw
          rw [List.length_append, List.length_singleton] at few5
          refine ⟨_, rfl, F, _, rfl, .inl (SqL.of hF4), _, rfl, _, _, rfl, rfl, _, rfl, ?_⟩
          rw [decide_eq_false (by rw [List.length_map, R4.len]; omega)]
          refine iteF ?_
          -- self.rows[other] = (thing, k)
          refine ⟨_, rfl, _, rfl, (by show 2 ≤ sizeLine; decide), fun t ht => ?_⟩
          have s5 : Same H4 (upd H4 t (.tup [v, .int (i : Int)])) := same_upd ht
          have ht5 : (upd H4 t (.tup [v, .int (i : Int)])) t = some (.tup [v, .int (i : Int)]) := upd_same
          generalize (upd H4 t (.tup [v, .int (i : Int)])) = H5 at s5 ht5
          have Rt5 := R4.same s5
          refine ⟨_, rfl, A.x, _, A.dx, _, _, rfl, (B4.same s5).ob, T.c_Ring, T.n_Ring_rows, ringF_rows _ _ _ _, _, rfl, A.d, kv2, _, _, rfl, Rt5.rd, hu4.tups (.same s5), shp_ok om, l, by rw [R4.len]; omega, fun ob rd6 => ?_⟩
          have tu6 : Tups H5 (upd H5 A.d ob) := Rt5.rd.tups
          have hF6 : (upd H5 A.d ob) F = some (.lst (kv2.map fun x => x.2.1)) := by
            rw [upd_ne (Ne.symm hdF)]
            exact s5 _ _ hF4
          -- found.append(other)
          refine ⟨_, rfl, .inl ⟨rfl, _, SqL.of hF6⟩, _, rfl, F, _, _, rfl, rfl, hF6, by rw [List.length_map, R4.len, sizeLine_eq]; omega, ?_⟩
          have kp7 : ∀ b o, H b = some o → b ≠ A.d → (upd (upd H5 A.d ob) F (.lst ((kv2.map fun x => x.2.1) ++ [u]))) b = some o := fun b o e hb => by
            rw [upd_ne (ne_of_none e hF), upd_ne hb]
            exact s5 _ _ (kp4 b o e hb)
          have tu7 : Tups (upd H5 A.d ob) (upd (upd H5 A.d ob) F (.lst ((kv2.map fun x => x.2.1) ++ [u]))) := Tups.upd hF6 fun _ z => nomatch z
          have tu57 := tu6.trans tu7
          have R7 : RR P w (upd (upd H5 A.d ob) F (.lst ((kv2.map fun x => x.2.1) ++ [u]))) A.d kd ms t0 (kv2 ++ [(mv kd th m, u, .ref t)]) (es2 ++ [(mv kd th m, some (th, i))]) := by
            refine ⟨rd6.ex tu7 fun o e => by rw [upd_ne hdF]; exact e, paired_append (Paired.mapP Rt5.ent fun _ _ z => z.tups tu57) (.cons ⟨rfl, t, v, rfl, tu57 _ _ ht5, hth2.tups ((Tups.same (s24.trans s5)).trans tu57)⟩ .nil), R5, R4.ok0⟩
          refine ⟨kv2 ++ [(mv kd th m, u, .ref t)], es2 ++ [(mv kd th m, some (th, i))], _, _, _, rfl, kp7, by rw [upd_same, List.map_append]; rfl, R7, ?_, by rw [List.getElem?_append_left hat2]; exact he2, hth2.tups ((Tups.same (s24.trans s5)).trans tu57)⟩
          exact (C2.grow hat2).stay (by rw [List.getElem?_append_left hat2]; exact he2) hm (by rw [List.map_append]; exact List.mem_append_right _ (List.mem_singleton.mpr rfl))
      · rintro σ H2 ⟨kv2, es2, v5, v6, v7, rfl, kp2, hF2, R2, C2, he2, hth2⟩
        rw [hxl] at C2
        have hat2 : at_ < es2.length := (List.getElem?_eq_some_iff.mp he2).1
        refine ⟨_, rfl, _, _, rfl, rfl, ?_⟩
        exact ⟨25 - (at_ + 1), by omega, at_ + 1, kv2, es2, _, _, _, _, rfl, kp2, hF2, R2, C2.next, by omega, rfl⟩
    · have hge : ¬ at_ < es1.length := fun z => hge (decide_eq_true (by rw [List.length_map, R1.len]; omega))
      have e : at_ = es1.length := by omega
      subst e
      exact k H1 kv1 es1 kp1 R1 C1
end
end K43
/-! W14: Ring.things, Ring.way, Ring.bringer. -/
namespace K43
open PySem PySem.Spec PyProof.Rows L2
def emp : Th → Bool
  | .row [] => true
  | .net [] => true
  | _ => false
theorem emp_iff (t : Th) : thD t = .tuple [] ↔ emp t = true := by
  cases t with
  | pl k => exact ⟨(fun e => nomatch e), (fun e => absurd e Bool.false_ne_true)⟩
  | row l => cases l with
    | nil => exact ⟨fun _ => rfl, fun _ => rfl⟩
    | cons a l => exact ⟨(fun e => (by injection e with e; exact nomatch e)), (fun e => absurd e Bool.false_ne_true)⟩
  | net l => cases l with
    | nil => exact ⟨fun _ => rfl, fun _ => rfl⟩
    | cons a l => exact ⟨(fun e => (by injection e with e; exact nomatch e)), (fun e => absurd e Bool.false_ne_true)⟩
theorem emp_len {l m : List Nat} (h : l.length = m.length) : emp (.row l) = emp (.row m) := by
  cases l <;> cases m <;> first | rfl | exact nomatch h
theorem emp_lenP {l m : List (Nat × Nat)} (h : l.length = m.length) : emp (.net l) = emp (.net m) := by
  cases l <;> cases m <;> first | rfl | exact nomatch h
section
variable {n : Nat}
theorem emp_mv {k : Kd} {th : Th} (h : ThOk n k th) (g : Pn n) : emp (mv k th g) = emp th := by
  cases k <;> cases th <;> try exact h.elim
  · rfl
  · exact emp_len (List.length_map ..)
  · exact emp_len ((sortN_perm _).length_eq.trans (List.length_map ..))
  · exact emp_lenP ((sortP_perm _).length_eq.trans (List.length_map ..))
  · rename_i l
    refine emp_len ?_
    unfold turnL
    rw [List.length_map, List.length_range]
    exact (IsP.len h).symm
theorem emp_eq {a b : Th} (hs : shp a = shp b) (ha : emp a = true) (hb : emp b = true) : a = b := by
  refine shp_cases (C := fun a b => emp a = true → emp b = true → a = b) hs (fun x y h => nomatch h) (fun x y h1 h2 => ?_) (fun x y h1 h2 => ?_) ha hb
  · cases x <;> cases y <;> first | rfl | exact absurd h1 Bool.false_ne_true | exact absurd h2 Bool.false_ne_true
  · cases x <;> cases y <;> first | rfl | exact absurd h1 Bool.false_ne_true | exact absurd h2 Bool.false_ne_true
theorem one_or {kd : Kd} {ms : List (Pn n)} {t0 : Th} {es : List Row} (I : RInv kd ms t0 es) (o : ThOk n kd t0) : (∀ x, x ∈ es.map (·.1) → emp x = false) ∨ es.length ≤ 1 := by
  have all : ∀ x, x ∈ es.map (·.1) → emp x = emp t0 ∧ shp x = kdS kd := fun x hx => by
    refine ⟨?_, shp_ok (I.ok o hx)⟩
    obtain ⟨e, he, rfl⟩ := List.mem_map.mp hx
    obtain ⟨i, hi⟩ := List.mem_iff_getElem?.mp he
    obtain ⟨g, _, eq⟩ := I.reach o i e.1 e.2 hi
    rw [eq]
    exact emp_mv o g
  cases e0 : emp t0 with
  | false => exact .inl fun x hx => (all x hx).1.trans e0
  | true =>
    refine .inr ?_
    have q := List.Nodup.length_le_of_subset I.nd (l₂ := [t0]) fun x hx => by
      have e := emp_eq ((all x hx).2.trans (shp_ok o).symm) ((all x hx).1.trans e0) e0
      rw [e]
      exact List.mem_singleton.mpr rfl
    rw [List.length_map] at q
    exact q
end
section
variable {P : Program} {w : World} {K : PySem.W.Frag} {mg : Str → Option Value} {base : Heap}
def spThings (P : Program) (w : World) (K : PySem.W.Frag) : Sp := fun vs H Q _ => ∃ (kd : Kd) (n : Nat) (A : RA) (ms : List (Pn n)) (t0 : Th) (kvs : List Ent) (es : List Row), vs = [.ref A.x] ∧ H A.x = some (.ins (He.ga K "Ring") A.dx (ringF A.gx A.ax A.mx A.d)) ∧ RR P w H A.d kd ms t0 kvs es ∧ es.length ≤ 1000 ∧
  ∀ p (zs : List (V × Th)) H', Same H H' → H p = none → H' p = some (.lst (zs.map (·.1))) → zs.Perm (kvs.map kEnt) → zs.Pairwise (fun a b => ltT a.2 b.2 = true) → Q (.ref p) H'
theorem scThings : FnScope ["self"] ["self"] (defScope sRingThings) := ⟨rfl, rfl, rfl, by decide +kernel, rfl, by decide +kernel, by decide +kernel⟩
theorem me_things (T : Tx K mg) : Me P w K mg base 1 (He.ga K "Ring") "things" ["self"] (spThings P w K) := by
  obtain ⟨fd, F⟩ := T.d_RingThings
  refine ⟨fd, _, T.c_Ring, T.m_Ring_things, F.bindsN fun _ _ _ _ _ _ us hl => match us, hl with | [_], _ => rfl, F.ok scThings (fun vs H Q E h => ?_) (fun cdv A0 outer s0 H vs Q E hr h => ?_)⟩
  · obtain ⟨kd, n, A, ms, t0, kvs, es, rfl, _⟩ := h
    rfl
  · obtain ⟨kd, n, A, ms, t0, kvs, es, rfl, hx, R, hl, k⟩ := h
    refine ⟨_, PSs.nox (pss_one (ps_ret (pe_callB (call_sortedRD rfl hr.units) rfl T.f_sorted PyProof.Rows.boot_sorted (pa_cons (pe_fld (pv 0) rfl) pa_nil)))), ?_⟩
    refine ⟨_, rfl, A.x, _, A.dx, _, _, rfl, hx, T.c_Ring, T.n_Ring_rows, ringF_rows _ _ _ _, A.d, kvs, _, rfl, R.rd, by rw [R.len]; exact hl, R.nd, ?_, fun p zs hp pm pw => k p zs _ (same_upd hp) hp upd_same pm pw⟩
    rcases one_or R.inv R.ok0 with h1 | h1
    · refine .inl fun x hx e => ?_
      have := h1 x.1 (by rw [← R.keys]; exact List.mem_map.mpr ⟨x, hx, rfl⟩)
      rw [(emp_iff x.1).mp e] at this
      cases this
    · exact .inr (by rw [R.len]; exact h1)
/-! ### way -/
def spWay (P : Program) (w : World) (K : PySem.W.Frag) (kd : Kd) : Sp := fun vs H Q _ => ∃ (n : Nat) (A : RA) (ms : List (Pn n)) (xs : List V) (t0 : Th) (kvs : List Ent) (es : List Row) (v : V) (th : Th), vs = [.ref A.x, v] ∧ RB K H A kd ms xs ∧ RR P w H A.d kd ms t0 kvs es ∧ es.length ≤ 1000 ∧ 1 ≤ n ∧ n ≤ 60 ∧
  ThAt H v th ∧ th ∈ es.map (·.1) ∧ ∀ q H' (ks : List Nat), Same H H' → H q = none → H' q = some (.lst (ks.map nV)) → (∀ k, k ∈ ks → k < ms.length) → th = mv kd t0 (pr ms ks) → Q (.ref q) H'
theorem scWay : FnScope ["self", "thing", "letters", "row"] ["self", "thing"] (defScope sRingWay) := ⟨rfl, rfl, rfl, by decide +kernel, rfl, by decide +kernel, by decide +kernel⟩
theorem me_way (T : Tx K mg) (kd : Kd) : Me P w K mg base 5 (He.ga K "Ring") "way" ["self", "thing"] (spWay P w K kd) := by
  obtain ⟨fd, F⟩ := T.d_RingWay
  refine ⟨fd, _, T.c_Ring, T.m_Ring_way, F.bindsN fun _ _ _ _ _ _ us hl => match us, hl with | [_, _], _ => rfl, F.ok scWay (fun vs H Q E h => ?_) (fun cdv A0 outer s0 H vs Q E hr h => ?_)⟩
  · obtain ⟨n, A, ms, xs, t0, kvs, es, v, th, rfl, _⟩ := h
    rfl
  · obtain ⟨n, A, ms, xs, t0, kvs, es, v, th, rfl, B, R, hl, h1, h60, hv, hth, k⟩ := h
    refine ⟨_, PSs.nox (
      pss_cons (ps_set (i := 1) scWay.nd rfl (Or.inl rfl) (pe_me (me_looked T kd) (pe_fld (pv 0) rfl) hr (pa_cons (pv 1) pa_nil))) <|
      pss_cons (ps_if (pt_cmpR (op_notInT (room16 hr)) (pv 1) (pe_fld (pv 0) rfl) (by rfl)) (pss_one ps_never) pss_nil) <|
      pss_cons (ps_set (i := 2) scWay.nd rfl (Or.inl rfl) (pe_lst pa_nil)) <|
      pss_cons (ps_set (i := 3) scWay.nd rfl (Or.inl rfl) (pe_getT (room16 hr) (pe_fld (pv 0) rfl) (pv 1) (fun _ _ => rfl))) <|
      pss_cons (ps_while PassesOwn.never (pt_cmpR op_notN (pv 3) pe_non (nomark _)) (
        pss_cons (ps_expr (pe_bm PySem.F.plainAttrs_list PySem.F.slot_list_append PySem.F.type_list_append mt_append (pv 2) (pa_cons (pe_ix ix_tup (pv 3) pe_int (fun _ _ => rfl)) pa_nil))) <|
        pss_one (ps_set (i := 3) scWay.nd rfl (Or.inl rfl) (pe_getT (room16 hr) (pe_fld (pv 0) rfl) (pe_ix ix_tup (pv 3) pe_int (fun _ _ => rfl)) (fun _ _ => rfl))))) <|
      pss_one (ps_ret (pe_listRev rfl rfl T.f_list rfl T.f_reversed (pv 2)))), ?_⟩
    obtain ⟨dxa, hax⟩ := B.ac
    have oth := R.inv.ok R.ok0 hth
    -- thing = self.act.looked(thing)
    refine ⟨_, rfl, A.x, _, A.dx, _, _, rfl, B.ob, T.c_Ring, T.n_Ring_act, ringF_act _ _ _ _, A.ax, dxa, _, rfl, hax, rfl, _, rfl, n, A.ax, v, th, rfl, B.ac, .own hv oth, h1, h60, fun r H1 s1 hr1 => ?_⟩
    have B1 := B.same s1
    have R1 := R.same s1
    obtain ⟨e, he, eth⟩ := List.mem_map.mp hth
    obtain ⟨i, hi⟩ := List.mem_iff_getElem?.mp he
    have hil := (List.getElem?_eq_some_iff.mp hi).1
    obtain ⟨th', v', r', o, hk1, he1, hth1, _, hrow⟩ := R1.at_ hil
    have e2 : th' = th := by
      rw [hi] at he1
      rw [Option.some.inj he1] at eth
      exact eth
    subst e2
    have l := lk_some_ R1.nd hk1
    have l : lkT kvs th' = some r' := l
    -- if thing not in self.rows
    refine ⟨_, rfl, _, rfl, A.x, _, A.dx, _, _, rfl, B1.ob, T.c_Ring, T.n_Ring_rows, ringF_rows _ _ _ _, A.d, kvs, _, _, rfl, R1.rd, R1.ne, hr1, shp_ok oth, _, rfl, ?_⟩
    rw [l]
    refine iteF ?_
    -- letters = []
    refine ⟨(by show 0 ≤ sizeLine; decide), fun L hL => ?_⟩
    have s2 : Same H1 (upd H1 L (.lst [])) := same_upd hL
    have hL2 : (upd H1 L (.lst [])) L = some (.lst (([] : List Nat).map nV)) := upd_same
    generalize (upd H1 L (.lst [])) = H2 at s2 hL2
    have B2 := B1.same s2
    have R2 := R1.same s2
    -- row = self.rows[thing]
    refine ⟨_, rfl, A.x, _, A.dx, _, _, rfl, B2.ob, T.c_Ring, T.n_Ring_rows, ringF_rows _ _ _ _, _, rfl, A.d, kvs, _, _, _, rfl, R2.rd, R2.ne, hr1.tups (.same s2), shp_ok oth, l, ?_⟩
    let Wd : Nat → L2.St → Hp → Prop := fun μ σ H' => ∃ (ls : List Nat) (cur : Th) (rv : V) (o : Option (Th × Nat)) (j : Nat), σ = [some (.ref A.x), some r, some (.ref L), some rv] ∧ Same H1 H' ∧ H' L = some (.lst (ls.map nV)) ∧ RowR H' rv o ∧ es[j]? = some (cur, o) ∧
      th' = mv kd cur (pr ms ls.reverse) ∧ (∀ k, k ∈ ls → k < ms.length) ∧ ls.length + j ≤ 1000 ∧ μ = j
    have rtup : ∀ {Ha Hb : Hp} {rv : V} {o : Option (Th × Nat)}, RowR Ha rv o → Tups Ha Hb → RowR Hb rv o := fun {Ha Hb rv o} hh tu => by
      cases o with
      | none => exact hh
      | some q =>
        obtain ⟨t, pv, e, a, b⟩ := hh
        exact ⟨t, pv, e, tu _ _ a, b.tups tu⟩
    refine ⟨Wd, ⟨i, [], th', r', o, i, rfl, s2, hL2, rtup hrow (.same s2), he1, (mv_one oth).symm, (fun _ h => nomatch h), by show 0 + i ≤ 1000; omega, rfl⟩, ?_⟩
    rintro μ σ H3 ⟨ls, cur, rv, o3, j, rfl, s3, hL3, hr3, he3, eq3, hls, hlj, rfl⟩
    have B3 := B1.same s3
    have R3 := R1.same s3
    refine ⟨_, rfl, rfl, _, rfl, ?_⟩
    cases o3 with
    | some q =>
      obtain ⟨p, kk⟩ := q
      obtain ⟨t, pv, rfl, ht, hp⟩ := hr3
      obtain ⟨jp, m, qp, hjp, hep, hm, ecur⟩ := R.inv.row _ _ _ _ he3
      have hkk : kk < ms.length := (List.getElem?_eq_some_iff.mp hm).1
      refine iteT ⟨fun σ' H' => ∃ μ', μ' < μ ∧ Wd μ' σ' H', fun σ' H' h => h, ?_⟩
      -- letters.append(row[1])
      refine ⟨_, rfl, .inl ⟨rfl, _, SqL.of hL3⟩, _, rfl, t, _, _, nV kk, rfl, rfl, SqT.of ht, rfl, L, _, _, rfl, rfl, hL3, by rw [List.length_map, sizeLine_eq]; omega, ?_⟩
      have tu4 : Tups H3 (upd H3 L (.lst (ls.map nV ++ [nV kk]))) := Tups.upd hL3 fun _ z => nomatch z
      have s4 : Same H1 (upd H3 L (.lst (ls.map nV ++ [nV kk]))) := fun b o e => by
        rw [upd_ne (ne_of_none e hL)]
        exact s3 _ _ e
      have hL4 : (upd H3 L (.lst (ls.map nV ++ [nV kk]))) L = some (.lst ((ls ++ [kk]).map nV)) := by
        rw [upd_same, List.map_append]
        rfl
      generalize (upd H3 L (.lst (ls.map nV ++ [nV kk]))) = H4 at tu4 s4 hL4
      have B4 := B1.same s4
      have R4 := R1.same s4
      obtain ⟨p', vp, rp, op, hk4, he4, hth4, _, hrow4⟩ := R4.at_ (i := jp) (List.getElem?_eq_some_iff.mp hep).1
      rw [hep] at he4
      obtain ⟨e5, e6⟩ := Prod.mk.inj (Option.some.inj he4)
      subst e5 e6
      have l4 : lkT kvs p = some rp := lk_some_ R4.nd hk4
      have op4 := R.inv.ok R.ok0 (List.mem_map.mpr ⟨_, List.mem_of_getElem? hep, rfl⟩)
      -- row = self.rows[row[0]]
      refine ⟨_, rfl, A.x, _, A.dx, _, _, rfl, B4.ob, T.c_Ring, T.n_Ring_rows, ringF_rows _ _ _ _, _, rfl, t, _, _, pv, rfl, rfl, SqT.of (tu4 _ _ ht), rfl, A.d, kvs, p, _, _, rfl, R4.rd, R4.ne, hp.tups tu4, shp_ok op4, l4, ?_⟩
      refine ⟨jp, hjp, ls ++ [kk], p, rp, qp, jp, rfl, s4, hL4, hrow4, hep, ?_, fun k hk => ?_, by rw [List.length_append, List.length_singleton]; omega, rfl⟩
      · rw [List.reverse_append, List.reverse_singleton, List.singleton_append]
        show th' = mv kd p (mk_ ms kk * pr ms ls.reverse)
        rw [mk_at hm, ← mv_mul op4, ← ecur]
        exact eq3
      · rcases List.mem_append.mp hk with z | z
        · exact hls k z
        · rw [List.mem_singleton.mp z]
          exact hkk
    | none =>
      have hr3 : rv = .non := hr3
      subst hr3
      have e0 := R.inv.non _ _ he3
      subst e0
      rw [R.inv.hd] at he3
      have ec := (Prod.mk.inj (Option.some.inj he3)).1
      subst ec
      refine iteF ⟨_, rfl, L, _, rfl, SqL.of hL3, fun q hq => ?_⟩
      have s5 : Same H3 (upd H3 q (.lst (ls.map nV).reverse)) := same_upd hq
      refine k q _ ls.reverse (s1.trans (s3.trans s5)) (s1.free (s3.free hq)) (by rw [upd_same, List.map_reverse]) (fun k hk => hls k (List.mem_reverse.mp hk)) eq3
/-! ### bringer -/
def spBringer (P : Program) (w : World) (K : PySem.W.Frag) (kd : Kd) : Sp := fun vs H Q _ => ∃ (n : Nat) (A : RA) (ms : List (Pn n)) (xs : List V) (t0 : Th) (kvs : List Ent) (es : List Row) (v : V) (th : Th), vs = [.ref A.x, v] ∧ RB K H A kd ms xs ∧ RR P w H A.d kd ms t0 kvs es ∧ es.length ≤ 1000 ∧ 1 ≤ n ∧ n ≤ 60 ∧
  ThAt H v th ∧ th ∈ es.map (·.1) ∧ ∀ q H' (g : Pn n), Same H H' → PermAt H' q g.1 → Gen (fun m => m ∈ ms) g → th = mv kd t0 g → Q (.ref q) H'
theorem scBringer : FnScope ["self", "thing", "turning", "k"] ["self", "thing"] (defScope sRingBringer) := ⟨rfl, rfl, rfl, by decide +kernel, rfl, by decide +kernel, by decide +kernel⟩
theorem me_bringer (T : Tx K mg) (kd : Kd) : Me P w K mg base 6 (He.ga K "Ring") "bringer" ["self", "thing"] (spBringer P w K kd) := by
  obtain ⟨fd, F⟩ := T.d_RingBringer
  refine ⟨fd, _, T.c_Ring, T.m_Ring_bringer, F.bindsN fun _ _ _ _ _ _ us hl => match us, hl with | [_, _], _ => rfl, F.ok scBringer (fun vs H Q E h => ?_) (fun cdv A0 outer s0 H vs Q E hr h => ?_)⟩
  · obtain ⟨n, A, ms, xs, t0, kvs, es, v, th, rfl, _⟩ := h
    rfl
  · obtain ⟨n, A, ms, xs, t0, kvs, es, v, th, rfl, B, R, hl, h1, h60, hv, hth, k⟩ := h
    refine ⟨_, PSs.nox (
      pss_cons (ps_set (i := 2) scBringer.nd rfl (Or.inl rfl) (pe_fn (fn_still T) (hr.mono (by decide)) rfl (pa_cons (pe_fld (pe_fld (pv 0) rfl) rfl) pa_nil))) <|
      pss_cons (ps_for PassesOwn.never rfl (pi_list (pe_me (me_way T kd) (pv 0) hr (pa_cons (pv 1) pa_nil))) (pg_name (i := 3) scBringer.nd rfl (Or.inl rfl))
        (pss_one (ps_set (i := 2) scBringer.nd rfl (Or.inl rfl) (pe_fn (fn_behind T) (hr.mono (by decide)) rfl (pa_cons (pv 2) (pa_cons (pe_ix ix_list (pe_fld (pv 0) rfl) (pv 3) (fun _ _ => rfl)) pa_nil)))))) <|
      pss_one (ps_ret (pv 2))), ?_⟩
    obtain ⟨dg, gfs, hg, hgm⟩ := B.gr
    -- turning = still(self.group.many)
    refine ⟨_, rfl, A.x, _, A.dx, _, _, rfl, B.ob, T.c_Ring, T.n_Ring_group, ringF_group _ _ _ _, A.gx, _, dg, _, _, rfl, hg, T.c_Group, T.n_Group_many, hgm, n, rfl, h60, fun u H1 s1 hu => ?_⟩
    have B1 := B.same s1
    -- for k in self.way(thing)
    refine ⟨_, rfl, A.x, A.dx, _, rfl, B1.ob, rfl, _, rfl, n, A, ms, xs, t0, kvs, es, v, th, rfl, B1, R.same s1, hl, h1, h60, hv.tups (.same s1), hth, fun q H2 ks s2 nq hq hks eth => ?_⟩
    refine ⟨q, rfl, ⟨_, SqL.of hq⟩, for_list (K := K) (a := q) (xs := ks.map nV) (fun i σ H3 => ∃ (u : Addr) (v3 : Option V), σ = [some (.ref A.x), some v, some (.ref u), v3] ∧ Same H2 H3 ∧ PermAt H3 u (pr ms (ks.take i)).1)
      ⟨u, none, rfl, .refl _, s2 _ _ hu⟩ (fun i σ H3 _ ⟨_, _, _, s3, _⟩ => SqL.of (s3 _ _ hq)) ?_ ?_⟩
    · rintro i y σ H3 hi ⟨u3, v3, rfl, s3, hu3⟩
      obtain ⟨kk, hkk, rfl⟩ := map_get hi
      have hlt := hks kk (List.mem_of_getElem? hkk)
      have B3 := B1.same (s2.trans s3)
      have hxl : xs.length = ms.length := Paired.length B3.ps
      have hx : xs[kk]? = some (xs[kk]'(by omega)) := List.getElem?_eq_getElem (by omega)
      obtain ⟨m, hm, a, ea, ha⟩ := paired_get' B3.ps hx
      rw [ea] at hx
      refine ⟨_, rfl, _, rfl, A.x, _, A.dx, _, _, rfl, B3.ob, T.c_Ring, T.n_Ring_makers, ringF_makers _ _ _ _, _, rfl, A.mx, _, _, .ref a, rfl, rfl, SqL.of B3.mks, atI_natV hx, ?_⟩
      refine ⟨n, u3, a, _, m.1, rfl, hu3, ha, by rw [(pr ms (ks.take i)).2.len]; exact h60, m.2.len, (pr ms (ks.take i)).2.mem_lt, fun c H4 s4 hc => ?_⟩
      refine ⟨c, _, rfl, s3.trans s4, ?_⟩
      rw [List.take_add_one, hkk]
      show PermAt H4 c (pr ms (ks.take i ++ [kk])).1
      rw [pr_snoc, mk_at hm]
      exact hc
    · rintro σ H3 ⟨u3, v3, rfl, s3, hu3⟩
      rw [List.length_map, List.take_length] at hu3
      exact ⟨_, rfl, k u3 H3 _ (s1.trans (s2.trans s3)) hu3 (pr_gen hks) eth⟩
end
end K43
/-! W15: Ring.__init__. -/
namespace K43
open PySem PySem.Spec PyProof.Rows L2
section
variable {P : Program} {w : World} {K : PySem.W.Frag} {mg : Str → Option Value} {base : Heap}
/-- a ring's instance is written: no part of a group -/
theorem GrAt.ins_ {H H' : Hp} {n : Nat} {gx x C dx : Addr} {fs : List (Str × V)} {ms : List (Pn n)} (h : GrAt K H gx ms) (hx : H x = some (.ins C dx fs)) (n1 : ∀ n a b, fs ≠ chainF n a b) (n2 : ∀ n a b, fs ≠ stepF n a b) (n3 : ∀ r n c st, fs ≠ groupF r n c st)
    (k : ∀ b o, H b = some o → b ≠ x → H' b = some o) : GrAt K H' gx ms := by
  have tu : Tups H H' := fun b xs q => k _ _ q (ne_of q hx fun z => nomatch z)
  obtain ⟨dg, r, st, xs, A, S, B, a, b, c, d, e, f, g⟩ := h.ex
  exact ⟨dg, r, st, xs, A, S, B, k _ _ a (ne_of a hx fun z => by injection z with _ _ z; exact n3 _ _ _ _ z.symm), k _ _ b (ne_of b hx fun z => nomatch z), c.tups tu, d, e.ins_ hx n1 n2 k, f, g⟩
def spRing (P : Program) (w : World) (K : PySem.W.Frag) : Sp := fun vs H Q _ => ∃ (kd : Kd) (n : Nat) (x dx gx ax : Addr) (v : V) (ms : List (Pn n)) (win : List Nat) (t0 : Th), vs = [.ref x, .ref gx, .ref ax, v, .int 1000] ∧ H x = some (.ins (He.ga K "Ring") dx []) ∧ GrAt K H gx ms ∧ ActAt K H ax kd n ∧ RawAt n H kd v t0 ∧ ThOk n kd t0 ∧
  (∀ m, m ∈ ms → Win win m) ∧ win.Nodup ∧ win.length ≤ 4 ∧ 1 ≤ n ∧ n ≤ 60 ∧ ms.length ≤ 50 ∧
  ∀ H' A xs kvs es, A.x = x → A.gx = gx → es.length ≤ 24 → (∀ b o, H b = some o → b ≠ x → H' b = some o) → H A.mx = none → H A.d = none → RB K H' A kd ms xs → RR P w H' A.d kd ms t0 kvs es → Cl kd ms es es.length 0 → Q .non H'
abbrev ringN : List Str := ["self", "group", "act", "thing", "most"]
theorem scRing : FnScope ringN ringN (defScope sRingInit) := ⟨rfl, rfl, rfl, by decide +kernel, rfl, by decide +kernel, by decide +kernel⟩
theorem rF {a : Str × V} {l : List (Str × V)} (h : a.1 = "group") : (∀ n b c, (a :: l) ≠ chainF n b c) ∧ (∀ n b c, (a :: l) ≠ stepF n b c) ∧ ∀ r n c st, (a :: l) ≠ groupF r n c st := by
  obtain ⟨k, v⟩ := a
  have h : k = "group" := h
  subst h
  refine ⟨fun n b c z => ?_, fun n b c z => ?_, fun r n c st z => ?_⟩
  · exact absurd (Prod.mk.inj (List.cons.inj z).1).1 (by decide +kernel)
  · exact absurd (Prod.mk.inj (List.cons.inj z).1).1 (by decide +kernel)
  · exact absurd (Prod.mk.inj (List.cons.inj z).1).1 (by decide +kernel)
theorem mc_ring (T : Tx K mg) : Mc P w K mg base 5 "Ring" ringN [.int 1000] (spRing P w K) := by
  obtain ⟨fd, F⟩ := T.d_RingInit
  obtain ⟨ds, hv, hb⟩ := F.binds1 (ps := ringN) 4 0 (by simp) rfl fun _ _ _ _ _ _ _ us its hl hi => match us, its, hl, hi with | [_, _, _, _], [_], _, _ => ⟨_, rfl, rfl⟩
  refine ⟨fd, _, ds, T.g_Ring, T.k_Ring, hv, hb, F.ok scRing (fun vs H Q E h => ?_) (fun cdv A0 outer s0 H vs Q E hr h => ?_)⟩
  · obtain ⟨kd, n, x, dx, gx, ax, v, ms, win, t0, rfl, _⟩ := h
    rfl
  · obtain ⟨kd, n, x, dx, gx, ax, v, ms, win, t0, rfl, hx, hG, hA, hv, ho, hw, hwn, hw4, h1, h60, hml, k⟩ := h
    refine ⟨_, PSs.nox (
      pss_cons (ps_if (pt_cmpR op_ne (pe_fld (pv 2) rfl) (pe_fld (pv 1) rfl) (nomark _)) (pss_one ps_never) pss_nil) <|
      pss_cons (ps_fld (pv 0) (pv 1) rfl) <|
      pss_cons (ps_fld (pv 0) (pv 2) rfl) <|
      pss_cons (ps_fld (pv 0) (pe_me0 (me_told T) (pv 1) (hr.mono (by decide))) rfl) <|
      pss_cons (ps_fld (pv 0) (pe_dispT hr.units (pe_me (me_looked T kd) (pv 2) hr (pa_cons (pv 3) pa_nil)) pe_non) rfl) <|
      pss_one (ps_expr (pe_me (me_spread T kd) (pv 0) (hr.mono (by decide)) (pa_cons (pv 4) pa_nil)))), ?_⟩
    obtain ⟨dxa, hax⟩ := hA
    obtain ⟨dg, r, st, xs0, CA0, S0, B0, hg, _⟩ := hG.ex
    have gne : gx ≠ x := ne_of hg hx fun z => by injection z with _ _ z; exact nomatch z
    have ane : ax ≠ x := ne_of hax hx fun z => by injection z with _ _ z; exact nomatch z
    -- if act.many != group.many
    refine ⟨_, rfl, ax, _, dxa, _, _, rfl, hax, ac_cls T kd, ac_many T kd, actF_many n, _, rfl, gx, _, dg, _, _, rfl, hg, T.c_Group, T.n_Group_many, groupF_many _ _ _ _, rfl, _, rfl, ?_⟩
    rw [decide_eq_true rfl]
    refine iteF ?_
    -- self.group = group
    refine ⟨_, rfl, _, rfl, x, _, dx, [], rfl, hx, T.c_Ring, T.n_Ring_group, (by show 0 < 1000; decide), ?_⟩
    have e1 : putF "group" (.ref gx) [] = ([("group", .ref gx)] : List (Str × V)) := rfl
    rw [e1]
    refine ⟨_, rfl, _, rfl, x, _, dx, _, rfl, upd_same, T.c_Ring, T.n_Ring_act, (by show 1 < 1000; decide), ?_⟩
    rw [upd_upd]
    have e2 : putF "act" (.ref ax) [("group", .ref gx)] = ([("group", .ref gx), ("act", .ref ax)] : List (Str × V)) := rfl
    rw [e2]
    have hx2 : (upd H x (.ins (He.ga K "Ring") dx [("group", .ref gx), ("act", .ref ax)])) x = some (.ins (He.ga K "Ring") dx [("group", .ref gx), ("act", .ref ax)]) := upd_same
    have old2 : ∀ b o, H b = some o → b ≠ x → (upd H x (.ins (He.ga K "Ring") dx [("group", .ref gx), ("act", .ref ax)])) b = some o := fun b o e hb => by rw [upd_ne hb]; exact e
    have none2 : ∀ {b : Addr}, (upd H x (.ins (He.ga K "Ring") dx [("group", .ref gx), ("act", .ref ax)])) b = none → H b = none := fun {b} e => by
      by_cases z : b = x
      · subst z; rw [upd_same] at e; cases e
      · rw [upd_ne z] at e; exact e
    generalize (upd H x (.ins (He.ga K "Ring") dx [("group", .ref gx), ("act", .ref ax)])) = H2 at hx2 old2 none2
    have hG2 : GrAt K H2 gx ms := hG.ins_ hx (fun _ _ _ z => nomatch z) (fun _ _ _ z => nomatch z) (fun _ _ _ _ z => nomatch z) old2
    -- self.makers = group.told()
    refine ⟨_, rfl, gx, dg, _, rfl, old2 _ _ hg gne, rfl, n, gx, ms, rfl, hG2, fun H3 mx xs s3 hmx hps nmx => ?_⟩
    have hx3 := s3 _ _ hx2
    refine ⟨_, rfl, x, _, dx, _, rfl, hx3, T.c_Ring, T.n_Ring_makers, (by show 2 < 1000; decide), ?_⟩
    have e3 : putF "makers" (.ref mx) [("group", .ref gx), ("act", V.ref ax)] = ([("group", .ref gx), ("act", .ref ax), ("makers", .ref mx)] : List (Str × V)) := rfl
    rw [e3]
    have mxx : mx ≠ x := ne_of hmx hx3 fun z => nomatch z
    have hx4 : (upd H3 x (.ins (He.ga K "Ring") dx [("group", .ref gx), ("act", .ref ax), ("makers", .ref mx)])) x = some (.ins (He.ga K "Ring") dx [("group", .ref gx), ("act", .ref ax), ("makers", .ref mx)]) := upd_same
    have old34 : ∀ b o, H3 b = some o → b ≠ x → (upd H3 x (.ins (He.ga K "Ring") dx [("group", .ref gx), ("act", .ref ax), ("makers", .ref mx)])) b = some o := fun b o e hb => by rw [upd_ne hb]; exact e
    have none4 : ∀ {b : Addr}, (upd H3 x (.ins (He.ga K "Ring") dx [("group", .ref gx), ("act", .ref ax), ("makers", .ref mx)])) b = none → H b = none := fun {b} e => by
      by_cases z : b = x
      · subst z; rw [upd_same] at e; cases e
      · rw [upd_ne z] at e; exact none2 (s3.free e)
    have tu34 : Tups H3 (upd H3 x (.ins (He.ga K "Ring") dx [("group", .ref gx), ("act", .ref ax), ("makers", .ref mx)])) := Tups.upd hx3 fun _ z => nomatch z
    generalize (upd H3 x (.ins (He.ga K "Ring") dx [("group", .ref gx), ("act", .ref ax), ("makers", .ref mx)])) = H4 at hx4 old34 none4 tu34
    have old4 : ∀ b o, H b = some o → b ≠ x → H4 b = some o := fun b o e hb => old34 _ _ (s3 _ _ (old2 _ _ e hb)) hb
    have hmx4 := old34 _ _ hmx mxx
    have raw4 : RawAt n H4 kd v t0 := by
      have seqs : ∀ {a : Addr} {ys : List V}, Seqs H a ys → Seqs H4 a ys := fun {a ys} q => q.imp (fun z => old4 _ _ z (ne_of z hx fun z => nomatch z)) fun z => old4 _ _ z (ne_of z hx fun z => nomatch z)
      cases kd with
      | places => exact hv
      | lists => obtain ⟨a, l, e, q, r⟩ := hv; exact ⟨a, l, e, seqs q, r⟩
      | sets => obtain ⟨a, l, e, q, r⟩ := hv; exact ⟨a, l, e, seqs q, r⟩
      | nets => obtain ⟨a, ys, ps, e, q, p, r⟩ := hv; exact ⟨a, ys, ps, e, seqs q, Paired.mapP p fun _ _ ⟨c, e, z⟩ => ⟨c, e, seqs z⟩, r⟩
      | turns => obtain ⟨a, p, e, q, r⟩ := hv; exact ⟨a, p, e, old4 _ _ q (ne_of q hx fun z => nomatch z), r⟩
    -- self.rows = {act.looked(thing): None}
    refine ⟨decide (kdS kd = 0), fun d hd => ?_⟩
    have s5 : Same H4 (upd H4 d (.dK [])) := same_upd hd
    have hd5 : (upd H4 d (.dK [])) d = some (.dK []) := upd_same
    generalize (upd H4 d (.dK [])) = H5 at s5 hd5
    refine ⟨_, rfl, ax, dxa, _, rfl, s5 _ _ (old4 _ _ hax ane), by rfl, _, rfl, n, ax, v, t0, rfl, ⟨dxa, s5 _ _ (old4 _ _ hax ane)⟩, raw4.same s5, h1, h60, fun u H6 s6 hu => ?_⟩
    refine ⟨s6 _ _ hd5, t0, kdS kd, hu, shp_ok ho, ⟨fun z => of_decide_eq_true z, fun z => decide_eq_true z⟩, fun ob rd => ?_⟩
    have s46 := s5.trans s6
    have hx6 := s46 _ _ hx4
    have dx_ : d ≠ x := fun z => by
      rw [z, hx4] at hd
      cases hd
    have dmx : d ≠ mx := fun z => by
      rw [z, hmx4] at hd
      cases hd
    have hx7 : (upd H6 d ob) x = some (.ins (He.ga K "Ring") dx [("group", .ref gx), ("act", .ref ax), ("makers", .ref mx)]) := by
      rw [upd_ne (Ne.symm dx_)]
      exact hx6
    have tu7 : Tups H6 (upd H6 d ob) := Tups.upd (s6 _ _ hd5) fun _ z => nomatch z
    refine ⟨_, rfl, x, _, dx, _, rfl, hx7, T.c_Ring, T.n_Ring_rows, (by show 3 < 1000; decide), ?_⟩
    have e4 : putF "rows" (.ref d) [("group", .ref gx), ("act", V.ref ax), ("makers", .ref mx)] = ringF gx ax mx d := rfl
    rw [e4]
    have hx8 : (upd (upd H6 d ob) x (.ins (He.ga K "Ring") dx (ringF gx ax mx d))) x = some (.ins (He.ga K "Ring") dx (ringF gx ax mx d)) := upd_same
    have old8 : ∀ b o, H4 b = some o → b ≠ x → (upd (upd H6 d ob) x (.ins (He.ga K "Ring") dx (ringF gx ax mx d))) b = some o := fun b o e hb => by
      rw [upd_ne hb, upd_ne (ne_of_none e hd)]
      exact s46 _ _ e
    have tu8 : Tups (upd H6 d ob) (upd (upd H6 d ob) x (.ins (He.ga K "Ring") dx (ringF gx ax mx d))) := Tups.upd hx7 fun _ z => nomatch z
    have rd8 := rd.ex tu8 (H' := upd (upd H6 d ob) x (.ins (He.ga K "Ring") dx (ringF gx ax mx d))) fun o e => by rw [upd_ne dx_]; exact e
    generalize (upd (upd H6 d ob) x (.ins (He.ga K "Ring") dx (ringF gx ax mx d))) = H8 at hx8 old8 rd8 tu8
    have tu48 : Tups H4 H8 := fun b ys e => old8 _ _ e (ne_of e hx4 fun z => nomatch z)
    have RB8 : RB K H8 ⟨x, dx, gx, ax, mx, d⟩ kd ms xs := ⟨hx8, ⟨dg, _, old8 _ _ (old4 _ _ hg gne) gne, groupF_many _ _ _ _⟩, ⟨dxa, old8 _ _ (old4 _ _ hax ane) ane⟩, old8 _ _ hmx4 mxx, (hps.tups tu34).tups tu48⟩
    have RR8 : RR P w H8 d kd ms t0 [(t0, u, .non)] [(t0, none)] := ⟨rd8, .cons ⟨rfl, rfl⟩ .nil, RInv.zero kd ms t0, ho⟩
    -- self.spread(most)
    refine ⟨_, rfl, x, dx, _, rfl, hx8, by rfl, _, rfl, n, ⟨x, dx, gx, ax, mx, d⟩, ms, xs, win, t0, _, rfl, RB8, RR8, hw, hwn, hw4, h60, hml, fun H9 kvs es kp R9 C9 => ?_⟩
    have kpT : Tups H8 H9 := fun b ys e => kp _ _ e (by
      obtain ⟨z, ez, h1, _⟩ := rd8.obj
      exact ne_of e ez fun y => h1 ys y.symm)
    have RB9 : RB K H9 ⟨x, dx, gx, ax, mx, d⟩ kd ms xs := by
      obtain ⟨z, ez, _, h2, h3⟩ := rd8.obj
      exact RB8.keep kpT (fun C dx fs b e => kp b _ e (ne_of e ez fun y => h3 _ _ _ y.symm)) fun o e => kp _ _ e (Ne.symm dmx)
    refine k H9 ⟨x, dx, gx, ax, mx, d⟩ xs kvs es rfl rfl (R9.inv.few R9.ok0 hwn hw4 hw) (fun b o e hb => ?_) ?_ (none4 hd) RB9 R9 C9
    · have e4 := old4 _ _ e hb
      exact kp _ _ (old8 _ _ e4 hb) (ne_of_none e4 hd)
    · exact none2 nmx
end
end K43
/-! W16: _law_cell, _law_whole, _law_plain, _law_order. -/
namespace K43
open PySem PySem.Spec PyProof.Rows L2
theorem SqL_same {K : PySem.W.Frag} {H H' : Hp} {a : Addr} {xs : List V} (h : SqL K H a xs) (s : Same H H') : SqL K H' a xs := h.imp (fun r => r.imp (fun e => s _ _ e) fun ⟨o, e⟩ => ⟨o, s _ _ e⟩) fun e => e
theorem pe_none_ {X : Cx} {e : Expr} : PE X e (fun _ _ _ => False) := ⟨fun _ _ _ _ _ _ h => h.elim⟩
section
variable {P : Program} {w : World} {K : PySem.W.Frag} {mg : Str → Option Value} {base : Heap}
def cellOf (ns : List Int) (k : Nat) : Int := (ns[k]?).getD 0
def spCell (K : PySem.W.Frag) : Sp := fun vs H Q _ => ∃ (a : Addr) (ns : List Int) (k : Nat), vs = [.ref a, .int (k : Int)] ∧ SqL K H a (ns.map V.int) ∧ Q (.int (cellOf ns k)) H
theorem scCell : FnScope ["_law_script", "_law_k"] ["_law_script", "_law_k"] (defScope sLawCell) := ⟨rfl, rfl, rfl, by decide +kernel, rfl, by decide +kernel, by decide +kernel⟩
theorem fn_cell (T : Tx K mg) : Fn P w K mg base 1 "_law_cell" ["_law_script", "_law_k"] (spCell K) := by
  obtain ⟨fd, F⟩ := T.d_LawCell
  refine ⟨fd, T.g__law_cell, F.kp, F.bindsN fun _ _ _ _ _ _ us hl => match us, hl with | [_, _], _ => rfl, F.ok scCell (fun vs H Q E h => ?_) (fun cdv A outer s H vs Q E hr h => ?_)⟩
  · obtain ⟨a, ns, k, rfl, _⟩ := h
    rfl
  · obtain ⟨a, ns, i, rfl, hs, k⟩ := h
    refine ⟨_, PSs.nox (pss_cons (ps_if (pt_cmpR op_lt (pv 1) (pe_callB call_len_seq rfl T.f_len boot_len (pa_cons (pv 0) pa_nil)) (nomark _)) (pss_one (ps_ret (pe_ix ix_list (pv 0) (pv 1) (fun _ _ => rfl)))) pss_nil) (pss_one (ps_ret pe_int))), ?_⟩
    refine ⟨_, rfl, _, rfl, a, _, rfl, .inl hs, _, _, rfl, rfl, _, rfl, ?_⟩
    refine ite2 (fun hlt => ?_) (fun hge => ?_)
    · have q := of_decide_eq_true hlt
      rw [List.length_map] at q
      have hi : i < ns.length := by omega
      refine ⟨_, rfl, _, rfl, a, _, _, .int (cellOf ns i), rfl, rfl, hs, atI_natV ?_, k⟩
      unfold cellOf
      rw [List.getElem?_map, List.getElem?_eq_getElem hi]
      rfl
    · have hge : ¬ i < ns.length := fun z => hge (decide_eq_true (by rw [List.length_map]; omega))
      have e : cellOf ns i = 0 := by
        unfold cellOf
        rw [List.getElem?_eq_none (by omega)]
        rfl
      rw [e] at k
      exact k
theorem scLWhole : FnScope ["_law_found"] ["_law_found"] (defScope sLawWhole) := ⟨rfl, rfl, rfl, by decide +kernel, rfl, by decide +kernel, by decide +kernel⟩
theorem fn_whole (T : Tx K mg) : Fn P w K mg base 1 "_law_whole" ["_law_found"] spWhole := by
  obtain ⟨fd, F⟩ := T.d_LawWhole
  refine ⟨fd, T.g__law_whole, F.kp, F.bindsN fun _ _ _ _ _ _ us hl => match us, hl with | [_], _ => rfl, F.ok scLWhole (fun vs H Q E h => ?_) (fun cdv A outer s H vs Q E hr h => ?_)⟩
  · obtain ⟨i, rfl, _⟩ := h
    rfl
  · obtain ⟨i, rfl, k⟩ := h
    refine ⟨_, PSs.nox (pss_one (ps_ret (pe_and (pe_callB call_isi rfl T.f_isinstance boot_isinstance (pa_cons (pv 0) (pa_cons (pe_bltn (v := .ty "int") rfl T.f_int (by decide +kernel) rfl) pa_nil)))
      (pe_one (pe_not (pe_callB call_isi rfl T.f_isinstance boot_isinstance (pa_cons (pv 0) (pa_cons (pe_bltn (v := .ty "bool") rfl T.f_bool (by decide +kernel) rfl) pa_nil)))))))), ?_⟩
    refine ⟨_, rfl, _, _, _, _, true, rfl, .ty _, .base (.int _), kit_ty (by decide +kernel), true, rfl, iteT ?_⟩
    exact ⟨_, rfl, _, _, _, _, false, rfl, .ty _, .base (.int _), kit_ty (by decide +kernel), false, rfl, k⟩
/-! ### _law_plain -/
def thDep : Th → Nat
  | .pl _ => 0
  | .row _ => 1
  | .net _ => 2
def thSz : Th → Nat
  | .pl _ => 0
  | .row l => l.length
  | .net l => l.length
def spPlain (D : Nat) : Sp := fun vs H Q _ => ∃ (v : V) (th : Th) (d : Nat), vs = [v, .int (d : Int)] ∧ ThAt H v th ∧ thDep th ≤ D ∧ thDep th ≤ d ∧ thSz th ≤ 1000 ∧ ∀ H', Same H H' → Q (.bl true) H'
abbrev plainN : List Str := ["_law_found", "_law_depth", "_law_one"]
theorem scPlain : FnScope plainN ["_law_found", "_law_depth"] (defScope sLawPlain) := ⟨rfl, rfl, rfl, by decide +kernel, rfl, by decide +kernel, by decide +kernel⟩
theorem fn_plain0 (T : Tx K mg) : Fn P w K mg base 2 "_law_plain" ["_law_found", "_law_depth"] (spPlain 0) := by
  obtain ⟨fd, F⟩ := T.d_LawPlain
  refine ⟨fd, T.g__law_plain, F.kp, F.bindsN fun _ _ _ _ _ _ us hl => match us, hl with | [_, _], _ => rfl, F.ok scPlain (fun vs H Q E h => ?_) (fun cdv A outer s H vs Q E hr h => ?_)⟩
  · obtain ⟨v, th, d, rfl, _⟩ := h
    rfl
  · obtain ⟨v, th, d, rfl, hv, h0, _, _, k⟩ := h
    refine ⟨_, PSs.nox (pss_cons (ps_if (PW.pt (pw_and (pt_val (pe_callB call_isi rfl T.f_isinstance boot_isinstance (pa_cons (pv 0) (pa_cons (pe_bltn (v := .ty "tuple") rfl T.f_tuple (by decide +kernel) rfl) pa_nil)))) (pw_and1 (pt_cmpR op_gt (pv 1) pe_int (nomark _))))) (pss_one ps_never) pss_nil)
      (pss_one (ps_ret (pe_fn (fn_whole T) hr rfl (pa_cons (pv 0) pa_nil))))), ?_⟩
    match th, hv, h0 with
    | .pl j, hv, _ =>
      have hv : v = nV j := hv
      subst hv
      refine ⟨_, rfl, _, _, _, _, false, rfl, .ty _, .base (.int _), kit_ty (by decide +kernel), false, rfl, iteF ?_⟩
      exact ⟨_, rfl, (j : Int), rfl, k H (.refl _)⟩
theorem th_items {H : Hp} {v : V} {th : Th} (h : ThAt H v th) (hd : 0 < thDep th) : ∃ a xs, v = .ref a ∧ H a = some (.tup xs) ∧ xs.length = thSz th ∧ ∀ (i : Nat) (x : V), xs[i]? = some x → ∃ t', ThAt H x t' ∧ thDep t' < thDep th ∧ thSz t' ≤ 2 := by
  cases th with
  | pl k => exact absurd hd (Nat.lt_irrefl 0)
  | row l =>
    obtain ⟨a, rfl, q⟩ := h
    refine ⟨a, _, rfl, q, List.length_map .., fun i x hx => ?_⟩
    obtain ⟨k, _, rfl⟩ := map_get hx
    exact ⟨.pl k, rfl, Nat.zero_lt_one, Nat.zero_le _⟩
  | net l =>
    obtain ⟨a, bs, rfl, q, p⟩ := h
    refine ⟨a, _, rfl, q, ?_, fun i x hx => ?_⟩
    · rw [List.length_map]
      exact Paired.length p
    · obtain ⟨b, hb, rfl⟩ := map_get hx
      obtain ⟨pq, _, hpq⟩ := paired_get' p hb
      exact ⟨.row [pq.1, pq.2], ⟨b, rfl, hpq⟩, by show 1 < 2; decide, Nat.le_refl 2⟩
theorem fn_plainS (T : Tx K mg) {D k : Nat} (F1 : Fn P w K mg base (k + 1) "_law_plain" ["_law_found", "_law_depth"] (spPlain D)) : Fn P w K mg base (k + 2) "_law_plain" ["_law_found", "_law_depth"] (spPlain (D + 1)) := by
  obtain ⟨fd, F⟩ := T.d_LawPlain
  refine ⟨fd, T.g__law_plain, F.kp, F.bindsN fun _ _ _ _ _ _ us hl => match us, hl with | [_, _], _ => rfl, F.ok scPlain (fun vs H Q E h => ?_) (fun cdv A outer s H vs Q E hr h => ?_)⟩
  · obtain ⟨v, th, d, rfl, _⟩ := h
    rfl
  · obtain ⟨v, th, d, rfl, hv, hD, hd, hz, kk⟩ := h
    refine ⟨_, PSs.nox (pss_cons (ps_if (PW.pt (pw_and (pt_val (pe_callB call_isi rfl T.f_isinstance boot_isinstance (pa_cons (pv 0) (pa_cons (pe_bltn (v := .ty "tuple") rfl T.f_tuple (by decide +kernel) rfl) pa_nil)))) (pw_and1 (pt_cmpR op_gt (pv 1) pe_int (nomark _)))))
        (pss_one (ps_ret (pe_callB (cr_all rfl) rfl T.f_all PyProof.Rows.boot_all (pa_cons
          (pe_lc (own := [("_law_one", 2)]) (g := gName 2) (tt := tYes) (te := tCall (spPlain D) [] E0 (tCons (tVar 2) (tCons (tOp (rI0 fun i j => .int (i - j)) (tVar 1) (tC (.int 1))) tNil))) rfl scPlain.nd (pi_tup (pv 0)) (blkOk_by (own := [("_law_one", 2)]) (N := plainN) (sc := defScope sLawPlain) (by decide +kernel))
            (fun _ _ _ _ _ => pg_name (i := 2) scPlain.nd rfl (Or.inl rfl)) (fun _ _ _ _ _ => pts_nil) (fun _ _ _ _ _ => pe_fn F1 hr rfl (pa_cons (pv 2) (pa_cons (pe_op op_sub (pv 1) pe_int) pa_nil)))) pa_nil)))) pss_nil)
      (pss_one (ps_ret (pe_fn (fn_whole T) (hr.mono (by omega)) rfl (pa_cons (pv 0) pa_nil))))), ?_⟩
    by_cases h0 : thDep th = 0
    · match th, hv, h0 with
      | .pl j, hv, _ =>
        have hv : v = nV j := hv
        subst hv
        refine ⟨_, rfl, _, _, _, _, false, rfl, .ty _, .base (.int _), kit_ty (by decide +kernel), false, rfl, iteF ?_⟩
        exact ⟨_, rfl, (j : Int), rfl, kk H (.refl _)⟩
    · obtain ⟨a, xs, rfl, ha, hxl, hxs⟩ := th_items hv (by omega)
      refine ⟨_, rfl, _, _, _, _, true, rfl, .ty _, .base (.tup ha), kit_ty (by decide +kernel), true, rfl, iteT ?_⟩
      refine ⟨_, rfl, _, _, rfl, rfl, _, rfl, ?_⟩
      rw [decide_eq_true (by omega : (0 : Int) < (d : Int))]
      refine iteT ?_
      refine ⟨_, rfl, a, rfl, ⟨_, SqT.of ha⟩, fun L hL => lc_tup (K := K) (a := a) (xs := xs) (fun i H2 => Same H H2 ∧ H2 L = some (.lst ((List.replicate i true).map V.bl))) ⟨same_upd hL, upd_same⟩ (fun i H2 _ ⟨e, _⟩ => SqT.of (e _ _ ha)) ?_ ?_⟩
      · rintro i y H2 hi ⟨sm, hL2⟩
        obtain ⟨t', ht', hd', hz'⟩ := hxs i y hi
        have hil := (List.getElem?_eq_some_iff.mp hi).1
        refine ⟨rfl, _, rfl, _, rfl, _, _, rfl, rfl, y, t', d - 1, by rw [show ((d - 1 : Nat) : Int) = (d : Int) - 1 by omega]; rfl, ht'.tups (.same sm), by omega, by omega, by omega, fun H3 s3 => ?_⟩
        refine ⟨_, s3 _ _ hL2, by rw [List.length_map, List.length_replicate, sizeLine_eq]; omega, fun b o e => ?_, ?_⟩
        · rw [upd_ne (ne_of_none e hL)]
          exact s3 _ _ (sm _ _ e)
        · rw [upd_same, List.replicate_succ', List.map_append]
          rfl
      · rintro H2 ⟨sm, hL2⟩
        refine ⟨L, List.replicate xs.length true, rfl, SqL.of hL2, ?_⟩
        have e : (List.replicate xs.length true).all id = true := List.all_eq_true.mpr fun b hb => (List.mem_replicate.mp hb).2
        rw [e]
        exact kk H2 sm
theorem fn_plain (T : Tx K mg) : Fn P w K mg base 4 "_law_plain" ["_law_found", "_law_depth"] (spPlain 2) := fn_plainS T (k := 2) (fn_plainS T (k := 1) (fn_plain0 T))
/-! ### _law_order -/
def spOrder : Sp := fun vs H Q _ => ∃ (z : Int) (n : Nat), vs = [.int z, .int (n : Int)] ∧ n ≤ 60 ∧ ∀ r H' l, Same H H' → H' r = some (.lst (l.map nV)) → H r = none → IsP n l → Q (.ref r) H'
abbrev orderN : List Str := ["_law_number", "_law_many", "_law_left", "_law_made", "_law_k", "_law_at"]
theorem scOrder : FnScope orderN ["_law_number", "_law_many"] (defScope sLawOrder) := ⟨rfl, rfl, rfl, by decide +kernel, rfl, by decide +kernel, by decide +kernel⟩
theorem isP_perm {n : Nat} {l : List Nat} (h : l.Perm (List.range n)) : IsP n l :=
  isP_of (by rw [h.length_eq, List.length_range]) (h.nodup_iff.mpr List.nodup_range) fun x hx => List.mem_range.mp (h.mem_iff.mp hx)
theorem seqIx {j n : Nat} (h : j < n) : seqIndex? (j : Int) n = some j := by
  have h1 : ¬ (j : Int) < 0 := by omega
  have h2 : (j : Int) < (n : Int) := by omega
  simp [seqIndex?, h1, h2]
theorem perm_erase {α : Type} : ∀ {l : List α} {j : Nat} (h : j < l.length), (l[j] :: l.eraseIdx j).Perm l
  | a :: l, 0, _ => List.Perm.refl _
  | a :: l, j + 1, h => (List.Perm.swap a (l[j]'(by simpa using h)) (l.eraseIdx j)).trans ((perm_erase (l := l) (j := j) (by simpa using h)).cons a)
theorem map_erase_ {α β : Type} (f : α → β) : ∀ (l : List α) (j : Nat), (l.map f).eraseIdx j = (l.eraseIdx j).map f
  | [], _ => rfl
  | _ :: _, 0 => rfl
  | a :: l, j + 1 => congrArg (f a :: ·) (map_erase_ f l j)
theorem fn_order (T : Tx K mg) : Fn P w K mg base 1 "_law_order" ["_law_number", "_law_many"] spOrder := by
  obtain ⟨fd, F⟩ := T.d_LawOrder
  refine ⟨fd, T.g__law_order, F.kp, F.bindsN fun _ _ _ _ _ _ us hl => match us, hl with | [_, _], _ => rfl, F.ok scOrder (fun vs H Q E h => ?_) (fun cdv A outer s H vs Q E hr h => ?_)⟩
  · obtain ⟨z, n, rfl, _⟩ := h
    rfl
  · obtain ⟨z, n, rfl, h60, k⟩ := h
    refine ⟨_, PSs.nox (
      pss_cons (ps_set (i := 2) scOrder.nd rfl (Or.inl rfl) (pe_listRg rfl rfl T.f_list (prg_1 rfl T.f_range (pv 1)))) <|
      pss_cons (ps_set (i := 3) scOrder.nd rfl (Or.inl rfl) (pe_lst pa_nil)) <|
      pss_cons (ps_for PassesOwn.never rfl (pi_range1 rfl T.f_range (pa_cons (pv 1) pa_nil)) (pg_name (i := 4) scOrder.nd rfl (Or.inl rfl))
        (pss_cons (ps_asg (pe_callB call_divmod rfl T.f_divmod PyProof.Rows.boot_divmod (pa_cons (pv 0) (pa_cons (pe_op op_sub (pv 1) (pv 4)) pa_nil))) (pg_tup rfl (pgs_cons (pg_name (i := 0) scOrder.nd rfl (Or.inl rfl)) (pgs_cons (pg_name (i := 5) scOrder.nd rfl (Or.inl rfl)) pgs_nil)))) <|
         pss_one (ps_expr (pe_bm PySem.F.plainAttrs_list PySem.F.slot_list_append PySem.F.type_list_append mt_append (pv 3) (pa_cons (pe_bm PySem.F.plainAttrs_list PySem.F.slot_list_pop PySem.F.type_list_pop mt_popAt (pv 2) (pa_cons (pv 5) pa_nil)) pa_nil))))) <|
      pss_one (ps_ret (pv 3))), ?_⟩
    refine ⟨_, rfl, n, rfl, RgOk.of_le (by decide) (by omega) (by decide) (by omega), fun L hL => ?_⟩
    have s1 : Same H (upd H L (.lst (rgV 0 (n : Int)))) := same_upd hL
    have hL1 : (upd H L (.lst (rgV 0 (n : Int)))) L = some (.lst ((List.range n).map nV)) := by rw [upd_same, rgV_nat]
    generalize (upd H L (.lst (rgV 0 (n : Int)))) = H1 at s1 hL1
    refine ⟨(by show 0 ≤ sizeLine; decide), fun M hM => ?_⟩
    have nM : H M = none := s1.free hM
    have hML : M ≠ L := fun z => by rw [z, hL1] at hM; cases hM
    refine ⟨_, rfl, (n : Int), rfl, by omega, by omega, for_range (lo := 0) (n := ((n : Int)).toNat)
      (fun i σ H2 => ∃ (z' : Int) (left made : List Nat) (v4 v5 : Option V), σ = [some (.int z'), some (.int (n : Int)), some (.ref L), some (.ref M), v4, v5] ∧ Same H H2 ∧ H2 L = some (.lst (left.map nV)) ∧ H2 M = some (.lst (made.map nV)) ∧ left.length + i = n ∧ (made ++ left).Perm (List.range n))
      ⟨z, List.range n, [], none, none, rfl, s1.trans (same_upd hM), by rw [upd_ne (Ne.symm hML)]; exact hL1, upd_same, by rw [List.length_range]; omega, by rw [List.nil_append]⟩ ?_ ?_⟩
    · rintro i σ H2 hi ⟨z', left, made, v4, v5, rfl, sm, hL2, hM2, hll, pm⟩
      rw [Int.toNat_natCast] at hi
      refine ⟨_, rfl, _, rfl, _, rfl, _, _, rfl, rfl, _, _, rfl, ⟨by omega, by omega⟩, fun p hp => ?_⟩
      rw [Int.zero_add]
      have hp0 : 0 < ((n : Int) - (i : Int)) := by omega
      have m1 := Int.emod_nonneg z' (by omega : (n : Int) - (i : Int) ≠ 0)
      have m2 := Int.emod_lt_of_pos z' hp0
      obtain ⟨j, hj⟩ : ∃ j : Nat, z' % ((n : Int) - (i : Int)) = (j : Int) := ⟨(z' % ((n : Int) - (i : Int))).toNat, by omega⟩
      have hjl : j < left.length := by omega
      have s3 : Same H2 (upd H2 p (.tup [.int (z' / ((n : Int) - (i : Int))), .int (z' % ((n : Int) - (i : Int)))])) := same_upd hp
      have hp3 : (upd H2 p (.tup [.int (z' / ((n : Int) - (i : Int))), .int (z' % ((n : Int) - (i : Int)))])) p = some (.tup [.int (z' / ((n : Int) - (i : Int))), .int (z' % ((n : Int) - (i : Int)))]) := upd_same
      generalize (upd H2 p (.tup [.int (z' / ((n : Int) - (i : Int))), .int (z' % ((n : Int) - (i : Int)))])) = H3 at s3 hp3
      refine ⟨p, _, rfl, SqT.of hp3, rfl, _, _, rfl, _, _, rfl, rfl, ?_⟩
      -- made.append(left.pop(at))
      have hL3 := s3 _ _ hL2
      have hM3 := s3 _ _ hM2
      refine ⟨_, rfl, .inl ⟨rfl, _, SqL.of hM3⟩, _, rfl, .inl ⟨rfl, _, SqL.of hL3⟩, _, rfl, L, _, _, j, nV left[j], rfl, rfl, hL3, by omega, by omega, ?_, by rw [List.getElem?_map, List.getElem?_eq_getElem hjl]; rfl, ?_⟩
      · rw [hj, List.length_map]
        exact seqIx hjl
      have hM4 : (upd H3 L (.lst ((left.map nV).eraseIdx j))) M = some (.lst (made.map nV)) := by rw [upd_ne hML]; exact hM3
      have hml : made.length ≤ 60 := by
        have := pm.length_eq
        rw [List.length_append, List.length_range] at this
        omega
      refine ⟨M, _, _, rfl, rfl, hM4, by rw [List.length_map, sizeLine_eq]; omega, ?_⟩
      refine ⟨_, left.eraseIdx j, made ++ [left[j]], _, _, rfl, fun b o e => ?_, ?_, ?_, ?_, ?_⟩
      · rw [upd_ne (ne_of_none e nM), upd_ne (ne_of_none e hL)]
        exact s3 _ _ (sm _ _ e)
      · rw [upd_ne (Ne.symm hML), upd_same, map_erase_]
      · rw [upd_same, List.map_append]
        rfl
      · rw [List.length_eraseIdx_of_lt hjl]
        omega
      · refine List.Perm.trans ?_ pm
        rw [List.append_assoc]
        exact (perm_erase hjl).append_left made
    · rintro σ H2 ⟨z', left, made, v4, v5, rfl, sm, hL2, hM2, hll, pm⟩
      rw [Int.toNat_natCast] at hll
      have e : left = [] := List.eq_nil_of_length_eq_zero (by omega)
      subst e
      rw [List.append_nil] at pm
      exact ⟨_, rfl, k M H2 made sm hM2 nM (isP_perm pm)⟩
end
end K43
/-! W17: _law_maker, _law_form. -/
namespace K43
open PySem PySem.Spec PyProof.Rows L2
section
variable {P : Program} {w : World} {K : PySem.W.Frag} {mg : Str → Option Value} {base : Heap}
/-- where an order o of the window wn takes x -/
def wf (wn o : List Nat) (x : Nat) : Nat := if x ∈ wn then ap wn (ap o (wn.idxOf x)) else x
theorem wf_isP {n m : Nat} {wn o : List Nat} (hn : wn.Nodup) (hl : wn.length = m) (hw : ∀ x, x ∈ wn → x < n) (ho : IsP m o) : IsP n ((List.range n).map (wf wn o)) := by
  have ix : ∀ {x}, x ∈ wn → wn.idxOf x < m := fun {x} hx => by rw [← hl]; exact List.idxOf_lt_length_of_mem hx
  have inw : ∀ {x}, x ∈ wn → ap wn (ap o (wn.idxOf x)) ∈ wn := fun {x} hx => by
    have h := ho.lt _ (ix hx)
    rw [← hl] at h
    rw [ap_lt h]
    exact List.getElem_mem h
  have apn : ∀ {i j}, i < m → j < m → ap wn i = ap wn j → i = j := fun {i j} hi hj e => by
    rw [← hl] at hi hj
    rw [ap_lt hi, ap_lt hj] at e
    exact (List.getElem_inj hn).mp e
  have e0 : ∀ i, i < n → ap ((List.range n).map (wf wn o)) i = wf wn o i := fun i hi => by
    rw [ap_map (by rw [List.length_range]; exact hi), ap_range]
  refine ⟨by rw [List.length_map, List.length_range], fun i hi => ?_, fun i j hi hj e => ?_⟩
  · rw [e0 i hi]
    unfold wf
    by_cases h : i ∈ wn
    · rw [if_pos h]
      exact hw _ (inw h)
    · rw [if_neg h]
      exact hi
  · rw [e0 i hi, e0 j hj] at e
    unfold wf at e
    by_cases h1 : i ∈ wn <;> by_cases h2 : j ∈ wn
    · rw [if_pos h1, if_pos h2] at e
      have e1 := apn (ho.lt _ (ix h1)) (ho.lt _ (ix h2)) e
      have e2 := ho.inj _ _ (ix h1) (ix h2) e1
      have a1 := ix h1
      have a2 := ix h2
      rw [← hl] at a1 a2
      have g1 := List.getElem_idxOf a1
      have g2 := List.getElem_idxOf a2
      rw [← g1, ← g2]
      simp only [e2]
    · rw [if_pos h1, if_neg h2] at e
      exact absurd (e ▸ inw h1) h2
    · rw [if_neg h1, if_pos h2] at e
      exact absurd (e.symm ▸ inw h2) h1
    · rw [if_neg h1, if_neg h2] at e
      exact e
def spMaker (K : PySem.W.Frag) : Sp := fun vs H Q _ => ∃ (z : Int) (l : Addr) (wn : List Nat) (n : Nat), vs = [.int z, .ref l, .int (n : Int)] ∧ H l = some (.lst (wn.map nV)) ∧ wn.Nodup ∧ (∀ x, x ∈ wn → x < n) ∧ wn.length ≤ 60 ∧ n ≤ 60 ∧
  ∀ r H' (p : Pn n), Same H H' → PermAt H' r p.1 → H r = none → Win wn p → Q (.ref r) H'
abbrev makerN : List Str := ["_law_cell_here", "_law_window", "_law_many", "_law_made", "_law_k", "_law_to"]
theorem scMaker : FnScope makerN ["_law_cell_here", "_law_window", "_law_many"] (defScope sLawMaker) := ⟨rfl, rfl, rfl, by decide +kernel, rfl, by decide +kernel, by decide +kernel⟩
theorem fn_maker (T : Tx K mg) : Fn P w K mg base 2 "_law_maker" ["_law_cell_here", "_law_window", "_law_many"] (spMaker K) := by
  obtain ⟨fd, F⟩ := T.d_LawMaker
  refine ⟨fd, T.g__law_maker, F.kp, F.bindsN fun _ _ _ _ _ _ us hl => match us, hl with | [_, _, _], _ => rfl, F.ok scMaker (fun vs H Q E h => ?_) (fun cdv A outer s H vs Q E hr h => ?_)⟩
  · obtain ⟨z, l, wn, n, rfl, _⟩ := h
    rfl
  · obtain ⟨z, l, wn, n, rfl, hl, hn, hw, hwl, h60, k⟩ := h
    refine ⟨_, PSs.nox (
      pss_cons (ps_set (i := 3) scMaker.nd rfl (Or.inl rfl) (pe_listRg rfl rfl T.f_list (prg_1 rfl T.f_range (pv 2)))) <|
      pss_cons (ps_for PassesOwn.never rfl (pi_enum rfl T.f_enumerate (pa_cons (pe_fn (fn_order T) hr rfl (pa_cons (pv 0) (pa_cons (pe_callB call_len_seq rfl T.f_len boot_len (pa_cons (pv 1) pa_nil)) pa_nil))) pa_nil)) (pg_tup rfl (pgs_cons (pg_name (i := 4) scMaker.nd rfl (Or.inl rfl)) (pgs_cons (pg_name (i := 5) scMaker.nd rfl (Or.inl rfl)) pgs_nil)))
        (pss_one (ps_asg (pe_ix ix_list (pv 1) (pv 5) (fun _ _ => rfl)) (pg_sub (pv 3) (pe_ix ix_list (pv 1) (pv 4) (fun _ _ => rfl)) set_list)))) <|
      pss_one (ps_ret (pe_callTy call_tuple_of rfl T.f_tuple boot_tup (pa_cons (pv 3) pa_nil)))), ?_⟩
    refine ⟨_, rfl, n, rfl, RgOk.of_le (by decide) (by omega) (by decide) (by omega), fun M hM => ?_⟩
    have s1 : Same H (upd H M (.lst (rgV 0 (n : Int)))) := same_upd hM
    have hM1 : (upd H M (.lst (rgV 0 (n : Int)))) M = some (.lst ((List.range n).map nV)) := by rw [upd_same, rgV_nat]
    generalize (upd H M (.lst (rgV 0 (n : Int)))) = H1 at s1 hM1
    refine ⟨_, rfl, _, rfl, l, _, rfl, .inl (SqL.of (s1 _ _ hl)), ?_⟩
    refine ⟨z, wn.length, by rw [List.length_map]; rfl, hwl, fun r H2 o s2 hr2 nr ho => ⟨r, o.map nV, rfl, SqL.of hr2, for_it (walk_enum (xs := o.map nV))
      (fun i σ H3 => ∃ (ms : List Nat) (v4 v5 : Option V), σ = [some (.int z), some (.ref l), some (.int (n : Int)), some (.ref M), v4, v5] ∧ Same H H3 ∧ H3 r = some (.lst (o.map nV)) ∧ H3 M = some (.lst (ms.map nV)) ∧ ms.length = n ∧
        (∀ x, x ∉ wn.take i → ap ms x = x) ∧ ∀ j, j < i → ap ms (ap wn j) = ap wn (ap o j))
      ⟨List.range n, none, none, rfl, s1.trans s2, hr2, s2 _ _ hM1, List.length_range, fun x _ => ap_range, fun j hj => absurd hj (Nat.not_lt_zero j)⟩ (fun i σ H3 _ ⟨_, _, _, _, _, e, _⟩ => SqL.of e) ?_ ?_⟩⟩
    · rintro i x σ H3 H4 hi ⟨ms, v4, v5, rfl, sm, hr3, hM3, hml, hout, hin⟩ ⟨Tp, vi, vo, rfl, hTp, rfl, ei, eo⟩
      cases ei
      obtain ⟨oi, hoi, rfl⟩ := map_get eo
      have hil : i < o.length := (List.getElem?_eq_some_iff.mp hoi).1
      have hiw : i < wn.length := by rw [← ho.len]; exact hil
      have eoi : ap o i = oi := by
        rw [ap_lt hil]
        exact (List.getElem?_eq_some_iff.mp hoi).2
      have hol : oi < wn.length := by rw [← eoi]; exact ho.lt i hiw
      have wi : ap wn i ∈ wn := by rw [ap_lt hiw]; exact List.getElem_mem hiw
      have wlt : ap wn i < n := hw _ wi
      have s4 : Same H3 (upd H3 Tp (.tup [.int (i : Int), nV oi])) := same_upd hTp
      have hT4 : (upd H3 Tp (.tup [.int (i : Int), nV oi])) Tp = some (.tup [.int (i : Int), nV oi]) := upd_same
      generalize (upd H3 Tp (.tup [.int (i : Int), nV oi])) = H4 at s4 hT4
      have hl4 := s4 _ _ (sm _ _ hl)
      refine ⟨Tp, _, rfl, SqT.of hT4, rfl, _, _, rfl, _, _, rfl, rfl, ?_⟩
      refine ⟨_, rfl, _, rfl, l, _, _, _, rfl, rfl, SqL.of hl4, atI_natV (v := nV (ap wn oi)) (by rw [List.getElem?_map, ap_get hol]; rfl), ?_⟩
      refine ⟨_, rfl, _, rfl, _, rfl, l, _, _, _, rfl, rfl, SqL.of hl4, atI_natV (v := nV (ap wn i)) (by rw [List.getElem?_map, ap_get hiw]; rfl), M, _, _, ap wn i, rfl, rfl, s4 _ _ hM3, ixN_nat (by rw [List.length_map, hml]; exact wlt), ?_⟩
      have nM : H M = none := hM
      refine ⟨ms.set (ap wn i) (ap wn oi), _, _, rfl, fun b o e => ?_, ?_, ?_, by rw [List.length_set]; exact hml, fun x hx => ?_, fun j hj => ?_⟩
      · rw [upd_ne (ne_of_none e nM)]
        exact s4 _ _ (sm _ _ e)
      · have rM : r ≠ M := fun z => by
          rw [z, hM1] at nr
          cases nr
        rw [upd_ne rM]
        exact s4 _ _ hr3
      · rw [upd_same, List.map_set]
      · have hne : ap wn i ≠ x := fun z => hx (by
          rw [List.take_add_one, ← z]
          exact List.mem_append_right _ (by rw [ap_get hiw]; exact List.mem_singleton.mpr rfl))
        rw [ap_set_ne hne]
        exact hout x fun q => hx (by
          rw [List.take_add_one]
          exact List.mem_append_left _ q)
      · by_cases e : j = i
        · subst e
          rw [ap_set_same (by rw [hml]; exact wlt), eoi]
        · have hji : j < i := by omega
          have hjw : j < wn.length := by omega
          have hne : ap wn i ≠ ap wn j := fun z => e (by
            rw [ap_lt hiw, ap_lt hjw] at z
            exact ((List.getElem_inj hn).mp z).symm)
          rw [ap_set_ne hne]
          exact hin j hji
    · rintro σ H3 ⟨ms, v4, v5, rfl, sm, hr3, hM3, hml, hout, hin⟩
      rw [List.length_map, ho.len] at hin hout
      have nM : H M = none := hM
      have e : ms = (List.range n).map (wf wn o) := by
        refine ap_ext (by rw [hml, List.length_map, List.length_range]) fun x hx => ?_
        rw [hml] at hx
        rw [ap_map (by rw [List.length_range]; exact hx), ap_range]
        unfold wf
        by_cases h : x ∈ wn
        · rw [if_pos h]
          have hix : wn.idxOf x < wn.length := List.idxOf_lt_length_of_mem h
          have q := hin _ hix
          rw [ap_lt hix, List.getElem_idxOf hix] at q
          exact q
        · rw [if_neg h]
          exact hout x fun z => h (List.mem_of_mem_take z)
      refine ⟨_, rfl, M, _, rfl, .inl ⟨SqL.of hM3, fun t ht => ?_⟩⟩
      refine k t _ ⟨ms, by rw [e]; exact wf_isP hn rfl hw ho⟩ (sm.trans (same_upd ht)) upd_same (sm.free ht) fun x hx => ?_
      show ap ms x = x
      exact hout x fun z => hx (List.mem_of_mem_take z)
end
end K43
/-! W18: _law_form, _law_moved. -/
namespace K43
open PySem PySem.Spec PyProof.Rows L2
def wd : Kd → Str
  | .places => "places"
  | .lists => "lists"
  | .sets => "sets"
  | .nets => "nets"
  | .turns => "turns"
theorem str_f {a b : Str} (h : (a == b) = false) : decide (V.str a = V.str b) = false := decide_eq_false fun e => by
  have e := V.str.inj e
  rw [e, beq_self_eq_true] at h
  cases h
theorem str_t {a : Str} : decide (V.str a = V.str a) = true := decide_eq_true rfl
def FormAt (H : Hp) : Kd → V → Th → Prop
  | .places, v, th => ThAt H v th
  | .turns, v, th => ThAt H v th
  | .lists, v, th => ∃ l xs, v = .ref l ∧ H l = some (.lst (xs.map nV)) ∧ th = .row xs
  | .sets, v, th => ∃ l xs, v = .ref l ∧ H l = some (.lst (xs.map nV)) ∧ th = .row (sortN xs)
  | .nets, v, th => ∃ l bs ps, v = .ref l ∧ H l = some (.lst (bs.map V.ref)) ∧ Paired (PairAt H) bs ps ∧ ps.length ≤ 60 ∧ th = .net (sortP (ps.map ordP))
theorem ordP_mm (p : Nat × Nat) : ordP p = (min p.1 p.2, max p.1 p.2) := by
  obtain ⟨a, b⟩ := p
  unfold ordP
  by_cases h : b < a
  · rw [if_pos h]
    show (b, a) = (min a b, max a b)
    rw [Nat.min_eq_right (by omega), Nat.max_eq_left (by omega)]
  · rw [if_neg h]
    show (a, b) = (min a b, max a b)
    rw [Nat.min_eq_left (by omega), Nat.max_eq_right (by omega)]
section
variable {P : Program} {w : World} {K : PySem.W.Frag} {mg : Str → Option Value} {base : Heap}
def spForm : Sp := fun vs H Q _ => ∃ (kd : Kd) (v : V) (th : Th), vs = [.str (wd kd), v] ∧ FormAt H kd v th ∧ ∀ r H', Same H H' → ThAt H' r th → Q r H'
abbrev formN : List Str := ["_law_word", "_law_thing_here", "_law_pair"]
theorem scForm : FnScope formN ["_law_word", "_law_thing_here"] (defScope sLawForm) := ⟨rfl, rfl, rfl, by decide +kernel, rfl, by decide +kernel, by decide +kernel⟩
theorem fn_form (T : Tx K mg) : Fn P w K mg base 1 "_law_form" ["_law_word", "_law_thing_here"] spForm := by
  obtain ⟨fd, F⟩ := T.d_LawForm
  refine ⟨fd, T.g__law_form, F.kp, F.bindsN fun _ _ _ _ _ _ us hl => match us, hl with | [_, _], _ => rfl, F.ok scForm (fun vs H Q E h => ?_) (fun cdv A outer s H vs Q E hr h => ?_)⟩
  · obtain ⟨kd, v, th, rfl, _⟩ := h
    rfl
  · obtain ⟨kd, v, th, rfl, hv, k⟩ := h
    refine ⟨_, PSs.nox (
      pss_cons (ps_if (pt_cmpR op_eq (pv 0) pe_str (nomark _)) (pss_one (ps_ret (pe_callTy call_tuple_of rfl T.f_tuple boot_tup (pa_cons (pv 1) pa_nil)))) pss_nil) <|
      pss_cons (ps_if (pt_cmpR op_eq (pv 0) pe_str (nomark _)) (pss_one (ps_ret (pe_callTy call_tuple_of rfl T.f_tuple boot_tup (pa_cons (pe_callB cr_sortedI rfl T.f_sorted PyProof.Rows.boot_sorted (pa_cons (pv 1) pa_nil)) pa_nil)))) pss_nil) <|
      pss_cons (ps_if (pt_cmpR op_eq (pv 0) pe_str (nomark _)) (pss_one (ps_ret (pe_callTy call_tuple_of rfl T.f_tuple boot_tup (pa_cons (pe_callB (cr_sortedPr hr.units) rfl T.f_sorted PyProof.Rows.boot_sorted (pa_cons
        (pe_lc (own := [("_law_pair", 2)]) (g := gName 2) (tt := tYes) (te := tTup (tCons (tCB rMinP (tCons (tVar 2) tNil)) (tCons (tCB rMaxP (tCons (tVar 2) tNil)) tNil))) rfl scForm.nd (pi_list (pv 1)) (blkOk_by (own := [("_law_pair", 2)]) (N := formN) (sc := defScope sLawForm) (by decide +kernel))
          (fun _ _ _ _ _ => pg_name (i := 2) scForm.nd rfl (Or.inl rfl)) (fun _ _ _ _ _ => pts_nil)
          (fun _ _ _ _ _ => pe_tup (pa_cons (pe_callB (cr_minP rfl hr.units) rfl T.f_min PyProof.Rows.boot_min (pa_cons (pv 2) pa_nil)) (pa_cons (pe_callB (cr_maxP rfl hr.units) rfl T.f_max PyProof.Rows.boot_max (pa_cons (pv 2) pa_nil)) pa_nil)))) pa_nil)) pa_nil)))) pss_nil) <|
      pss_one (ps_ret (pv 1))), ?_⟩
    cases kd with
    | lists =>
      obtain ⟨l, xs, rfl, hl, rfl⟩ := hv
      refine ⟨_, rfl, rfl, _, rfl, ?_⟩
      rw [show wd .lists = "lists" from rfl, str_t]
      exact iteT ⟨_, rfl, l, _, rfl, .inl ⟨SqL.of hl, fun t ht => k _ _ (same_upd ht) ⟨t, rfl, upd_same⟩⟩⟩
    | sets =>
      obtain ⟨l, xs, rfl, hl, rfl⟩ := hv
      refine ⟨_, rfl, rfl, _, rfl, ?_⟩
      rw [str_f (by decide +kernel)]
      refine iteF ⟨_, rfl, rfl, _, rfl, ?_⟩
      rw [show wd .sets = "sets" from rfl, str_t]
      have hl2 : H l = some (.lst ((xs.map fun k : Nat => (k : Int)).map V.int)) := by rw [← nV_map]; exact hl
      refine iteT ⟨_, rfl, l, _, rfl, SqL.of hl2, fun ns q hp hpw hq => ?_⟩
      have e := int_sort hp hpw
      subst e
      refine ⟨q, _, rfl, .inl ⟨SqL.of upd_same, fun t ht => k _ _ ((same_upd hq).trans (same_upd ht)) ⟨t, rfl, ?_⟩⟩⟩
      show upd _ t _ t = _
      rw [upd_same, ← nV_map]
    | nets =>
      obtain ⟨l, bs, ps, rfl, hl, hps, hpl, rfl⟩ := hv
      refine ⟨_, rfl, rfl, _, rfl, ?_⟩
      rw [str_f (by decide +kernel)]
      refine iteF ⟨_, rfl, rfl, _, rfl, ?_⟩
      rw [str_f (by decide +kernel)]
      refine iteF ⟨_, rfl, rfl, _, rfl, ?_⟩
      rw [show wd .nets = "nets" from rfl, str_t]
      refine iteT ?_
      have hbl : bs.length = ps.length := Paired.length hps
      refine ⟨_, rfl, l, rfl, ⟨_, SqL.of hl⟩, fun D hD => lc_list (K := K) (a := l) (xs := bs.map V.ref) (fun i H2 => ∃ cs : List Addr, Same H H2 ∧ H2 D = some (.lst (cs.map V.ref)) ∧ Paired (PairAt H2) cs ((ps.map ordP).take i)) ⟨[], same_upd hD, upd_same, .nil⟩ (fun i H2 _ ⟨_, e, _⟩ => SqL.of (e _ _ hl)) ?_ ?_⟩
      · rintro i y H2 hi ⟨cs, sm, hD2, pp⟩
        obtain ⟨b, hb, rfl⟩ := map_get hi
        obtain ⟨p, hp, hpb⟩ := paired_get' hps hb
        have hin := (List.getElem?_eq_some_iff.mp hp).1
        refine ⟨rfl, _, rfl, b, p, rfl, sm _ _ hpb, _, rfl, b, p, rfl, sm _ _ hpb, (by show 2 ≤ sizeLine; decide), fun q nq => ?_⟩
        have s3 : Same H2 (upd H2 q (.tup [nV (min p.1 p.2), nV (max p.1 p.2)])) := same_upd nq
        have hq : PairAt (upd H2 q (.tup [nV (min p.1 p.2), nV (max p.1 p.2)])) q (ordP p) := by
          rw [ordP_mm]
          exact upd_same
        generalize (upd H2 q (.tup [nV (min p.1 p.2), nV (max p.1 p.2)])) = H3 at s3 hq
        have keep : ∀ o, Same H (upd H3 D o) := fun o b u e => by
          rw [upd_ne (ne_of_none e hD)]
          exact s3 _ _ (sm _ _ e)
        have hcl : cs.length = i := by
          have := Paired.length pp
          rw [this, List.length_take, List.length_map]
          omega
        have hD3 := s3 _ _ hD2
        have tu : Tups H3 (upd H3 D (.lst (cs.map V.ref ++ [V.ref q]))) := Tups.upd hD3 fun _ z => nomatch z
        refine ⟨_, hD3, by rw [List.length_map, hcl, sizeLine_eq]; omega, cs ++ [q], keep _, by rw [List.map_append]; exact upd_same, ?_⟩
        rw [List.take_add_one, List.getElem?_map, hp]
        exact paired_append (Paired.mapP pp fun _ _ z => tu _ _ (s3 _ _ z)) (.cons (tu _ _ hq) .nil)
      · rintro H2 ⟨cs, sm, hD2, pp⟩
        rw [List.length_map, hbl, List.take_of_length_le (by rw [List.length_map]; exact Nat.le_refl _)] at pp
        refine ⟨D, cs, _, rfl, SqL.of hD2, pp, by rw [List.length_map]; omega, fun q ds hq pc => ⟨q, _, rfl, .inl ⟨SqL.of upd_same, fun u hu => ?_⟩⟩⟩
        have s2 : Same H2 (upd (upd H2 q (.lst (ds.map V.ref))) u (.tup (ds.map V.ref))) := (same_upd hq).trans (same_upd hu)
        exact k _ _ (sm.trans s2) ⟨u, ds, rfl, upd_same, Paired.mapP pc fun _ _ z => s2 _ _ z⟩
    | places =>
      refine ⟨_, rfl, rfl, _, rfl, ?_⟩
      rw [str_f (by decide +kernel)]
      refine iteF ⟨_, rfl, rfl, _, rfl, ?_⟩
      rw [str_f (by decide +kernel)]
      refine iteF ⟨_, rfl, rfl, _, rfl, ?_⟩
      rw [str_f (by decide +kernel)]
      exact iteF ⟨_, rfl, k _ _ (.refl _) hv⟩
    | turns =>
      refine ⟨_, rfl, rfl, _, rfl, ?_⟩
      rw [str_f (by decide +kernel)]
      refine iteF ⟨_, rfl, rfl, _, rfl, ?_⟩
      rw [str_f (by decide +kernel)]
      refine iteF ⟨_, rfl, rfl, _, rfl, ?_⟩
      rw [str_f (by decide +kernel)]
      exact iteF ⟨_, rfl, k _ _ (.refl _) hv⟩
/-! ### _law_moved -/
def spLMoved : Sp := fun vs H Q _ => ∃ (kd : Kd) (n : Nat) (v : V) (t : Addr) (th : Th) (g : Pn n), vs = [.str (wd kd), v, .ref t] ∧ ThAt H v th ∧ ThOk n kd th ∧ PermAt H t g.1 ∧ 1 ≤ n ∧ n ≤ 60 ∧ ∀ r H', Same H H' → ThAt H' r (mv kd th g) → Q r H'
abbrev lmN : List Str := ["_law_word", "_law_form_here", "_law_t", "_law_made", "_law_place", "_law_to", "_law_one", "_law_other"]
theorem scLMoved : FnScope lmN ["_law_word", "_law_form_here", "_law_t"] (defScope sLawMoved) := ⟨rfl, rfl, rfl, by decide +kernel, rfl, by decide +kernel, by decide +kernel⟩
theorem fn_lmoved (T : Tx K mg) : Fn P w K mg base 2 "_law_moved" ["_law_word", "_law_form_here", "_law_t"] spLMoved := by
  obtain ⟨fd, F⟩ := T.d_LawMoved
  refine ⟨fd, T.g__law_moved, F.kp, F.bindsN fun _ _ _ _ _ _ us hl => match us, hl with | [_, _, _], _ => rfl, F.ok scLMoved (fun vs H Q E h => ?_) (fun cdv A outer s H vs Q E hr h => ?_)⟩
  · obtain ⟨kd, n, v, t, th, g, rfl, _⟩ := h
    rfl
  · obtain ⟨kd, n, v, t, th, g, rfl, hv, ho, ht, h1, h60, k⟩ := h
    refine ⟨_, PSs.nox (
      pss_cons (ps_if (pt_cmpR op_eq (pv 0) pe_str (nomark _)) (pss_one (ps_ret (pe_ix ix_tup (pv 2) (pv 1) (fun _ _ => rfl)))) pss_nil) <|
      pss_cons (ps_if (pt_cmpR op_eq (pv 0) pe_str (nomark _)) (
        pss_cons (ps_set (i := 3) scLMoved.nd rfl (Or.inl rfl) (pe_op op_rep (pe_lst (pa_cons pe_int pa_nil)) (pe_callB call_len_seq rfl T.f_len boot_len (pa_cons (pv 2) pa_nil)))) <|
        pss_cons (ps_for PassesOwn.never rfl (pi_enumT rfl T.f_enumerate (pa_cons (pv 1) pa_nil)) (pg_tup rfl (pgs_cons (pg_name (i := 4) scLMoved.nd rfl (Or.inl rfl)) (pgs_cons (pg_name (i := 5) scLMoved.nd rfl (Or.inl rfl)) pgs_nil)))
          (pss_one (ps_asg (pe_ix ix_tup (pv 2) (pv 5) (fun _ _ => rfl)) (pg_sub (pv 3) (pe_ix ix_tup (pv 2) (pv 4) (fun _ _ => rfl)) set_list)))) <|
        pss_one (ps_ret (pe_callTy call_tuple_of rfl T.f_tuple boot_tup (pa_cons (pv 3) pa_nil)))) pss_nil) <|
      pss_cons (ps_if (pt_cmpR op_eq (pv 0) pe_str (nomark _)) (pss_one (ps_ret (pe_fn (fn_form T) hr rfl (pa_cons (pv 0) (pa_cons
        (pe_lc (own := [("_law_one", 6), ("_law_other", 7)]) (g := gTup K 2 (gCons (gName 6) (gCons (gName 7) gNil))) (tt := tYes) (te := tTup (tCons (tOp (rIxT K) (tVar 2) (tVar 6)) (tCons (tOp (rIxT K) (tVar 2) (tVar 7)) tNil))) rfl scLMoved.nd (pi_tup (pv 1)) (blkOk_by (own := [("_law_one", 6), ("_law_other", 7)]) (N := lmN) (sc := defScope sLawMoved) (by decide +kernel))
          (fun _ _ _ _ _ => pg_tup rfl (pgs_cons (pg_name (i := 6) scLMoved.nd rfl (Or.inl rfl)) (pgs_cons (pg_name (i := 7) scLMoved.nd rfl (Or.inl rfl)) pgs_nil))) (fun _ _ _ _ _ => pts_nil)
          (fun _ _ _ _ _ => pe_tup (pa_cons (pe_ix (r := rIxT K) ix_tup (pv 2) (pv 6) (fun _ _ => rfl)) (pa_cons (pe_ix (r := rIxT K) ix_tup (pv 2) (pv 7) (fun _ _ => rfl)) pa_nil)))) pa_nil))))) pss_nil) <|
      pss_one (ps_ret (pe_fn (fn_form T) hr rfl (pa_cons (pv 0) (pa_cons
        (pe_lc (own := [("_law_one", 6)]) (g := gName 6) (tt := tYes) (te := tOp (rIxT K) (tVar 2) (tVar 6)) rfl scLMoved.nd (pi_tup (pv 1)) (blkOk_by (own := [("_law_one", 6)]) (N := lmN) (sc := defScope sLawMoved) (by decide +kernel))
          (fun _ _ _ _ _ => pg_name (i := 6) scLMoved.nd rfl (Or.inl rfl)) (fun _ _ _ _ _ => pts_nil) (fun _ _ _ _ _ => pe_ix (r := rIxT K) ix_tup (pv 2) (pv 6) (fun _ _ => rfl))) pa_nil))))), ?_⟩
    cases kd with
    | places =>
      match th, hv, ho, k with
      | .pl j, hv, ho, k =>
      have hv : v = nV j := hv
      subst hv
      refine ⟨_, rfl, rfl, _, rfl, ?_⟩
      rw [show wd .places = "places" from rfl, str_t]
      exact iteT ⟨_, rfl, _, rfl, t, _, _, _, rfl, rfl, SqT.of ht, ix_perm ho, k _ _ (.refl _) rfl⟩
    | lists =>
      match th, hv, ho, k with
      | .row l, ⟨a, e, ha⟩, ho, k =>
      subst e
      refine ⟨_, rfl, rfl, _, rfl, ?_⟩
      rw [str_f (by decide +kernel)]
      refine iteF ⟨_, rfl, rfl, _, rfl, ?_⟩
      rw [str_f (by decide +kernel)]
      refine iteF ⟨_, rfl, rfl, _, rfl, ?_⟩
      rw [str_f (by decide +kernel)]
      refine iteF ?_
      refine ⟨_, rfl, _, rfl, a, rfl, ⟨_, SqT.of ha⟩, fun D hD => lc_tup (K := K) (a := a) (xs := l.map nV) (fun i H2 => H2 = upd H D (.lst ((l.take i).map fun x => nV (ap g.1 x)))) rfl (fun i H2 _ e => by rw [e]; exact SqT.of (same_upd hD _ _ ha)) ?_ ?_⟩
      · rintro i y H2 hi rfl
        obtain ⟨j, hj, rfl⟩ := map_get hi
        have hin := (List.getElem?_eq_some_iff.mp hj).1
        refine ⟨rfl, _, rfl, _, rfl, t, _, _, _, rfl, rfl, SqT.of (same_upd hD _ _ ht), ix_perm (ho.1 j (List.mem_of_getElem? hj)), _, upd_same, ?_, ?_⟩
        · have hlen : l.length ≤ 60 := ho.2
          rw [List.length_map, List.length_take, sizeLine_eq]
          omega
        · rw [upd_upd, List.take_add_one, hj, List.map_append]
          rfl
      · rintro H2 rfl
        refine ⟨.lists, .ref D, _, rfl, ⟨D, l.map (ap g.1), rfl, ?_, rfl⟩, fun r H3 s3 hr3 => k _ _ ((same_upd hD).trans s3) hr3⟩
        rw [upd_same, List.length_map, List.take_length, List.map_map]
        rfl
    | sets =>
      match th, hv, ho, k with
      | .row l, ⟨a, e, ha⟩, ho, k =>
      subst e
      refine ⟨_, rfl, rfl, _, rfl, ?_⟩
      rw [str_f (by decide +kernel)]
      refine iteF ⟨_, rfl, rfl, _, rfl, ?_⟩
      rw [str_f (by decide +kernel)]
      refine iteF ⟨_, rfl, rfl, _, rfl, ?_⟩
      rw [str_f (by decide +kernel)]
      refine iteF ?_
      refine ⟨_, rfl, _, rfl, a, rfl, ⟨_, SqT.of ha⟩, fun D hD => lc_tup (K := K) (a := a) (xs := l.map nV) (fun i H2 => H2 = upd H D (.lst ((l.take i).map fun x => nV (ap g.1 x)))) rfl (fun i H2 _ e => by rw [e]; exact SqT.of (same_upd hD _ _ ha)) ?_ ?_⟩
      · rintro i y H2 hi rfl
        obtain ⟨j, hj, rfl⟩ := map_get hi
        have hin := (List.getElem?_eq_some_iff.mp hj).1
        refine ⟨rfl, _, rfl, _, rfl, t, _, _, _, rfl, rfl, SqT.of (same_upd hD _ _ ht), ix_perm (ho.1 j (List.mem_of_getElem? hj)), _, upd_same, ?_, ?_⟩
        · have hlen : l.length ≤ 60 := ho.2.2.2
          rw [List.length_map, List.length_take, sizeLine_eq]
          omega
        · rw [upd_upd, List.take_add_one, hj, List.map_append]
          rfl
      · rintro H2 rfl
        refine ⟨.sets, .ref D, _, rfl, ⟨D, l.map (ap g.1), rfl, ?_, rfl⟩, fun r H3 s3 hr3 => k _ _ ((same_upd hD).trans s3) hr3⟩
        rw [upd_same, List.length_map, List.take_length, List.map_map]
        rfl
    | nets =>
      match th, hv, ho, k with
      | .net l, ⟨a, bs, e, ha, hbs⟩, ho, k =>
      subst e
      have hbl : bs.length = l.length := Paired.length hbs
      refine ⟨_, rfl, rfl, _, rfl, ?_⟩
      rw [str_f (by decide +kernel)]
      refine iteF ⟨_, rfl, rfl, _, rfl, ?_⟩
      rw [str_f (by decide +kernel)]
      refine iteF ⟨_, rfl, rfl, _, rfl, ?_⟩
      rw [show wd .nets = "nets" from rfl, str_t]
      refine iteT ?_
      refine ⟨_, rfl, _, rfl, a, rfl, ⟨_, SqT.of ha⟩, fun D hD => lc_tup (K := K) (a := a) (xs := bs.map V.ref) (fun i H2 => ∃ cs : List Addr, Same H H2 ∧ H2 D = some (.lst (cs.map V.ref)) ∧ Paired (PairAt H2) cs ((l.map fun p => (ap g.1 p.1, ap g.1 p.2)).take i)) ⟨[], same_upd hD, upd_same, .nil⟩ (fun i H2 _ ⟨_, e, _⟩ => SqT.of (e _ _ ha)) ?_ ?_⟩
      · rintro i y H2 hi ⟨cs, sm, hD2, pp⟩
        obtain ⟨b, hb, rfl⟩ := map_get hi
        obtain ⟨p, hp, hpb⟩ := paired_get' hbs hb
        obtain ⟨g1, g2⟩ := ho.1 p (List.mem_of_getElem? hp)
        have hin := (List.getElem?_eq_some_iff.mp hp).1
        refine ⟨b, _, rfl, SqT.of (sm _ _ hpb), rfl, nV p.1, _, rfl, nV p.2, _, rfl, rfl, rfl, ?_⟩
        refine ⟨_, rfl, _, rfl, t, _, _, _, rfl, rfl, SqT.of (sm _ _ ht), ix_perm (by omega), _, rfl, _, rfl, t, _, _, _, rfl, rfl, SqT.of (sm _ _ ht), ix_perm g2, (by show 2 ≤ sizeLine; decide), fun q nq => ?_⟩
        have s3 : Same H2 (upd H2 q (.tup [nV (ap g.1 p.1), nV (ap g.1 p.2)])) := same_upd nq
        have hq : PairAt (upd H2 q (.tup [nV (ap g.1 p.1), nV (ap g.1 p.2)])) q (ap g.1 p.1, ap g.1 p.2) := upd_same
        generalize (upd H2 q (.tup [nV (ap g.1 p.1), nV (ap g.1 p.2)])) = H3 at s3 hq
        have keep : ∀ o, Same H (upd H3 D o) := fun o b u e => by
          rw [upd_ne (ne_of_none e hD)]
          exact s3 _ _ (sm _ _ e)
        have hcl : cs.length = i := by
          have := Paired.length pp
          rw [this, List.length_take, List.length_map]
          omega
        have hD3 := s3 _ _ hD2
        have tu : Tups H3 (upd H3 D (.lst (cs.map V.ref ++ [V.ref q]))) := Tups.upd hD3 fun _ z => nomatch z
        have := ho.2.2.2
        refine ⟨_, hD3, by rw [List.length_map, hcl, sizeLine_eq]; omega, cs ++ [q], keep _, by rw [List.map_append]; exact upd_same, ?_⟩
        rw [List.take_add_one, List.getElem?_map, hp]
        exact paired_append (Paired.mapP pp fun _ _ z => tu _ _ (s3 _ _ z)) (.cons (tu _ _ hq) .nil)
      · rintro H2 ⟨cs, sm, hD2, pp⟩
        rw [List.length_map, hbl, List.take_of_length_le (by rw [List.length_map]; exact Nat.le_refl _)] at pp
        have := ho.2.2.2
        refine ⟨.nets, .ref D, _, rfl, ⟨D, cs, _, rfl, hD2, pp, by rw [List.length_map]; omega, rfl⟩, fun r H3 s3 hr3 => k _ _ (sm.trans s3) ?_⟩
        rw [List.map_map] at hr3
        exact hr3
    | turns =>
      match th, hv, ho, k with
      | .row p, ⟨a, e, ha⟩, ip, k =>
      subst e
      have ip : IsP n p := ip
      have ig := g.2
      refine ⟨_, rfl, rfl, _, rfl, ?_⟩
      rw [str_f (by decide +kernel)]
      refine iteF ⟨_, rfl, rfl, _, rfl, ?_⟩
      rw [show wd .turns = "turns" from rfl, str_t]
      refine iteT ?_
      have hl : (p.map nV).length = n := by rw [List.length_map]; exact ip.len
      have hgl : (g.1.map nV).length = n := by rw [List.length_map]; exact ig.len
      refine ⟨by decide, fun l0 n0 => ⟨_, rfl, t, _, rfl, .inr (SqT.of (same_upd n0 _ _ ht)), ?_⟩⟩
      rw [hgl]
      refine ⟨l0, (n : Int), _, rfl, rfl, upd_same, by omega, by omega, by show 1 * _ ≤ _; rw [Int.toNat_natCast]; have := sizeN h60; omega, fun l nl => ?_⟩
      rw [zerosV]
      have s1 : Same H (upd (upd H l0 (.lst [V.int 0])) l (.lst ((List.replicate n 0).map nV))) := (same_upd n0).trans (same_upd nl)
      have nl0 : H l = none := (same_upd n0).free nl
      refine ⟨_, rfl, a, _, rfl, SqT.of (s1 _ _ ha), for_enumT (K := K) (a := a) (xs := p.map nV)
        (fun i σ H2 => ∃ (v v2 : Option V) (ms : List Nat), σ = [some (.str (wd .turns)), some (.ref a), some (.ref t), some (.ref l), v, v2, none, none] ∧ Same H H2 ∧ H2 l = some (.lst (ms.map nV)) ∧ ms.length = n ∧ ∀ j, j < i → j < n → ap ms (ap g.1 j) = ap g.1 (ap p j))
        ⟨none, none, List.replicate n 0, rfl, s1, upd_same, List.length_replicate, fun j h => absurd h (Nat.not_lt_zero j)⟩ (fun i σ H2 _ ⟨_, _, _, _, e, _⟩ => SqT.of (e _ _ ha)) ?_ ?_⟩
      · rintro i y T0 σ H2 hi ⟨v, v2, ms, rfl, sm, hL, hml, hap⟩ hT
        obtain ⟨x, hx, rfl⟩ := map_get hi
        have hin : i < p.length := (List.getElem?_eq_some_iff.mp hx).1
        have hinn : i < n := ip.len ▸ hin
        have hxe : ap p i = x := by rw [ap_get hin] at hx; exact Option.some.inj hx
        have hxn : x < n := ip.mem_lt x (List.mem_of_getElem? hx)
        have hlT : l ≠ T0 := ne_of_none hL hT
        have hbT : (upd H2 T0 (.tup [.int (i : Nat), nV x])) t = some (.tup (g.1.map nV)) := by rw [upd_ne (ne_of_none (sm _ _ ht) hT)]; exact sm _ _ ht
        refine ⟨T0, _, rfl, SqT.of upd_same, rfl, _, _, rfl, _, _, rfl, rfl, ?_⟩
        refine ⟨_, rfl, _, rfl, t, _, _, _, rfl, rfl, SqT.of hbT, ix_perm hxn, ?_⟩
        refine ⟨_, rfl, _, rfl, _, rfl, t, _, _, _, rfl, rfl, SqT.of hbT, ix_perm hinn, l, _, _, ap g.1 i, rfl, rfl, by rw [upd_ne hlT]; exact hL, ixN_nat (by rw [List.length_map, hml]; exact ig.lt i hinn), ?_⟩
        refine ⟨_, _, ms.set (ap g.1 i) (ap g.1 x), rfl, fun b o e => ?_, ?_, isP_set_len hml, fun j hj hjn => ?_⟩
        · have hbl : b ≠ l := ne_of_none e nl0
          rw [upd_ne hbl, upd_ne (ne_of_none (sm _ _ e) hT)]
          exact sm _ _ e
        · rw [upd_same, List.map_set]
        · by_cases e : j = i
          · subst e
            rw [hxe, ap_set_same (by rw [hml]; exact ig.lt _ hjn)]
          · rw [ap_set_ne (fun z => e (ig.inj _ _ hjn hinn z.symm))]
            exact hap j (by omega) hjn
      · rintro σ H2 ⟨v, v2, ms, rfl, sm, hL, hml, hap⟩
        rw [hl] at hap
        refine ⟨_, rfl, l, _, rfl, .inl ⟨SqL.of hL, fun c hc => k _ _ (sm.trans (same_upd hc)) ⟨c, rfl, ?_⟩⟩⟩
        show upd _ c _ c = _
        rw [upd_same, turnL_eq ig hml fun i hi => hap i hi hi]
end
end K43
/-! W19: _law_act, _law_turning, _law_closed. -/
namespace K43
open PySem PySem.Spec PyProof.Rows L2
theorem shaped_lnat (p : List Nat) : SeqAt.shaped (.list (p.map dN)) = true := by
  unfold SeqAt.shaped
  have := depthAll_nat p
  refine Bool.and_eq_true_iff.mpr ⟨?_, decide_eq_true ?_⟩
  · rw [PyData.canLay0]
    exact canLayAll_nat p
  · rw [PyData.depth]
    omega
theorem eqv_lnat (p q : List Nat) : PyData.eqv (.list (p.map dN)) (.list (q.map dN)) = decide (p = q) := by
  rw [PyData.eqv]
  exact eqvAll_nat p q
section
variable {P : Program} {w : World} {K : PySem.W.Frag} {mg : Str → Option Value} {base : Heap}
def spAct (K : PySem.W.Frag) : Sp := fun vs H Q _ => ∃ (kd : Kd) (n : Nat), vs = [.str (wd kd), .int (n : Int)] ∧ ∀ x H', Same H H' → ActAt K H' x kd n → Q (.ref x) H'
theorem scAct : FnScope ["_law_word", "_law_many"] ["_law_word", "_law_many"] (defScope sLawAct) := ⟨rfl, rfl, rfl, by decide +kernel, rfl, by decide +kernel, by decide +kernel⟩
theorem fn_act (T : Tx K mg) : Fn P w K mg base 3 "_law_act" ["_law_word", "_law_many"] (spAct K) := by
  obtain ⟨fd, F⟩ := T.d_LawAct
  refine ⟨fd, T.g__law_act, F.kp, F.bindsN fun _ _ _ _ _ _ us hl => match us, hl with | [_, _], _ => rfl, F.ok scAct (fun vs H Q E h => ?_) (fun cdv A outer s H vs Q E hr h => ?_)⟩
  · obtain ⟨kd, n, rfl, _⟩ := h
    rfl
  · obtain ⟨kd, n, rfl, k⟩ := h
    refine ⟨_, PSs.nox (
      pss_cons (ps_if (pt_cmpR op_eq (pv 0) pe_str (nomark _)) (pss_one (ps_ret (pe_mc (mc_Places T) hr rfl (pa_cons (pv 1) pa_nil)))) pss_nil) <|
      pss_cons (ps_if (pt_cmpR op_eq (pv 0) pe_str (nomark _)) (pss_one (ps_ret (pe_mc (mc_Lists T) hr rfl (pa_cons (pv 1) pa_nil)))) pss_nil) <|
      pss_cons (ps_if (pt_cmpR op_eq (pv 0) pe_str (nomark _)) (pss_one (ps_ret (pe_mc (mc_Sets T) hr rfl (pa_cons (pv 1) pa_nil)))) pss_nil) <|
      pss_cons (ps_if (pt_cmpR op_eq (pv 0) pe_str (nomark _)) (pss_one (ps_ret (pe_mc (mc_Nets T) hr rfl (pa_cons (pv 1) pa_nil)))) pss_nil) <|
      pss_one (ps_ret (pe_mc (mc_Turns T) hr rfl (pa_cons (pv 1) pa_nil)))), ?_⟩
    have fin : ∀ (C : Addr), C = acC K kd → ∀ x dx : Addr, H x = none → H dx = none → dx ≠ x → spActI C [.ref x, .int (n : Int)] (upd (upd H dx (.own x)) x (.ins C dx [])) (fun v H2 => v = .non ∧ Q (.ref x) H2) E0 := fun C eC x dx nx nd ndx => by
      subst eC
      refine ⟨x, dx, n, rfl, upd_same, rfl, k x _ (Same.made nx nd fun b o e hb => by rw [upd_ne hb]; exact e) ⟨dx, upd_same⟩⟩
    cases kd with
    | places =>
      refine ⟨_, rfl, rfl, _, rfl, ?_⟩
      rw [show wd .places = "places" from rfl, str_t]
      exact iteT ⟨_, rfl, fin _ rfl⟩
    | lists =>
      refine ⟨_, rfl, rfl, _, rfl, ?_⟩
      rw [str_f (by decide +kernel)]
      refine iteF ⟨_, rfl, rfl, _, rfl, ?_⟩
      rw [show wd .lists = "lists" from rfl, str_t]
      exact iteT ⟨_, rfl, fin _ rfl⟩
    | sets =>
      refine ⟨_, rfl, rfl, _, rfl, ?_⟩
      rw [str_f (by decide +kernel)]
      refine iteF ⟨_, rfl, rfl, _, rfl, ?_⟩
      rw [str_f (by decide +kernel)]
      refine iteF ⟨_, rfl, rfl, _, rfl, ?_⟩
      rw [show wd .sets = "sets" from rfl, str_t]
      exact iteT ⟨_, rfl, fin _ rfl⟩
    | nets =>
      refine ⟨_, rfl, rfl, _, rfl, ?_⟩
      rw [str_f (by decide +kernel)]
      refine iteF ⟨_, rfl, rfl, _, rfl, ?_⟩
      rw [str_f (by decide +kernel)]
      refine iteF ⟨_, rfl, rfl, _, rfl, ?_⟩
      rw [str_f (by decide +kernel)]
      refine iteF ⟨_, rfl, rfl, _, rfl, ?_⟩
      rw [show wd .nets = "nets" from rfl, str_t]
      exact iteT ⟨_, rfl, fin _ rfl⟩
    | turns =>
      refine ⟨_, rfl, rfl, _, rfl, ?_⟩
      rw [str_f (by decide +kernel)]
      refine iteF ⟨_, rfl, rfl, _, rfl, ?_⟩
      rw [str_f (by decide +kernel)]
      refine iteF ⟨_, rfl, rfl, _, rfl, ?_⟩
      rw [str_f (by decide +kernel)]
      refine iteF ⟨_, rfl, rfl, _, rfl, ?_⟩
      rw [str_f (by decide +kernel)]
      exact iteF ⟨_, rfl, fin _ rfl⟩
/-! ### _law_turning -/
def spLTurning : Sp := fun vs H Q _ => ∃ (n : Nat) (a : Addr) (p : List Nat), vs = [.ref a, .int (n : Int)] ∧ PermAt H a p ∧ IsP n p ∧ n ≤ 60 ∧ ∀ H', Same H H' → Q (.bl true) H'
abbrev ltN : List Str := ["_law_found", "_law_many", "_law_to"]
theorem scLTurning : FnScope ltN ["_law_found", "_law_many"] (defScope sLawTurning) := ⟨rfl, rfl, rfl, by decide +kernel, rfl, by decide +kernel, by decide +kernel⟩
theorem sort_isP {n : Nat} {p : List Nat} (h : IsP n p) : sortN p = List.range n := by
  refine (sortN_is (m := p) ?_ ?_).symm
  · refine List.perm_iff_count.mpr fun a => ?_
    rw [List.Nodup.count List.nodup_range, List.Nodup.count h.nodup]
    by_cases ha : a < n
    · rw [if_pos (List.mem_range.mpr ha), if_pos]
      obtain ⟨i, hi, e⟩ := h.surj ha
      rw [← e, ap_lt (by rw [h.len]; exact hi)]
      exact List.getElem_mem _
    · rw [if_neg (fun z => ha (List.mem_range.mp z)), if_neg (fun z => ha (h.mem_lt a z))]
  · exact List.pairwise_le_range
theorem fn_lturning (T : Tx K mg) : Fn P w K mg base 2 "_law_turning" ["_law_found", "_law_many"] spLTurning := by
  obtain ⟨fd, F⟩ := T.d_LawTurning
  refine ⟨fd, T.g__law_turning, F.kp, F.bindsN fun _ _ _ _ _ _ us hl => match us, hl with | [_, _], _ => rfl, F.ok scLTurning (fun vs H Q E h => ?_) (fun cdv A outer s H vs Q E hr h => ?_)⟩
  · obtain ⟨n, a, p, rfl, _⟩ := h
    rfl
  · obtain ⟨n, a, p, rfl, ha, ip, h60, k⟩ := h
    refine ⟨_, PSs.nox (pss_one (ps_ret (pe_and (pe_callB call_isi rfl T.f_isinstance boot_isinstance (pa_cons (pv 0) (pa_cons (pe_bltn (v := .ty "tuple") rfl T.f_tuple (by decide +kernel) rfl) pa_nil)))
      (pe_and (pe_callB (cr_all rfl) rfl T.f_all PyProof.Rows.boot_all (pa_cons
          (pe_lc (own := [("_law_to", 2)]) (g := gName 2) (tt := tYes) (te := tCall spWhole [] E0 (tCons (tVar 2) tNil)) rfl scLTurning.nd (pi_tup (pv 0)) (blkOk_by (own := [("_law_to", 2)]) (N := ltN) (sc := defScope sLawTurning) (by decide +kernel))
            (fun _ _ _ _ _ => pg_name (i := 2) scLTurning.nd rfl (Or.inl rfl)) (fun _ _ _ _ _ => pts_nil) (fun _ _ _ _ _ => pe_fn (fn_whole T) hr rfl (pa_cons (pv 2) pa_nil))) pa_nil))
        (pe_one (pe_cmpR (op_eqD hr.units) (pe_callB (cr_sortedNt hr.units) rfl T.f_sorted PyProof.Rows.boot_sorted (pa_cons (pv 0) pa_nil)) (pe_listRg rfl rfl T.f_list (prg_1 rfl T.f_range (pv 1))) (nomark _))))))), ?_⟩
    refine ⟨_, rfl, _, _, _, _, true, rfl, .ty _, .base (.tup ha), kit_ty (by decide +kernel), true, rfl, iteT ?_⟩
    have hpl : p.length ≤ 60 := by rw [ip.len]; exact h60
    refine ⟨_, rfl, a, rfl, ⟨_, SqT.of ha⟩, fun L hL => lc_tup (K := K) (a := a) (xs := p.map nV) (fun i H2 => Same H H2 ∧ H2 L = some (.lst ((List.replicate i true).map V.bl))) ⟨same_upd hL, upd_same⟩ (fun i H2 _ ⟨e, _⟩ => SqT.of (e _ _ ha)) ?_ ?_⟩
    · rintro i y H2 hi ⟨sm, hL2⟩
      obtain ⟨x, hx, rfl⟩ := map_get hi
      have hil := (List.getElem?_eq_some_iff.mp hx).1
      refine ⟨rfl, _, rfl, (x : Int), rfl, _, hL2, by rw [List.length_map, List.length_replicate, sizeLine_eq]; omega, fun b o e => ?_, ?_⟩
      · rw [upd_ne (ne_of_none e hL)]
        exact sm _ _ e
      · rw [upd_same, List.replicate_succ', List.map_append]
        rfl
    · rintro H2 ⟨sm, hL2⟩
      rw [List.length_map] at hL2
      refine ⟨L, List.replicate p.length true, rfl, SqL.of hL2, ?_⟩
      have e : (List.replicate p.length true).all id = true := List.all_eq_true.mpr fun b hb => (List.mem_replicate.mp hb).2
      rw [e]
      refine ⟨true, rfl, iteT ?_⟩
      refine ⟨_, rfl, a, p, rfl, sm _ _ ha, by omega, fun q hq => ?_⟩
      refine ⟨_, rfl, n, rfl, RgOk.of_le (by decide) (by omega) (by decide) (by omega), fun r hr' => ?_⟩
      have s3 : Same H2 (upd H2 q (.lst ((sortN p).map nV))) := same_upd hq
      have s4 : Same (upd H2 q (.lst ((sortN p).map nV))) (upd (upd H2 q (.lst ((sortN p).map nV))) r (.lst (rgV 0 (n : Int)))) := same_upd hr'
      refine ⟨.list ((sortN p).map dN), .list ((List.range n).map dN), .lst (SqL.of (s4 _ _ upd_same)) (dpAll_nat _), .lst (SqL.of (show upd _ r _ r = some (.lst ((List.range n).map nV)) by rw [upd_same, rgV_nat])) (dpAll_nat _), shaped_lnat _, shaped_lnat _, ?_⟩
      have e2 : PyData.eqv (.list ((sortN p).map dN)) (.list ((List.range n).map dN)) = true := by
        rw [eqv_lnat, sort_isP ip]
        exact decide_eq_true rfl
      rw [e2]
      exact k _ (sm.trans (s3.trans s4))
/-! ### _law_closed -/
structure Found (H : Hp) (f : Addr) (n : Nat) (kd : Kd) (zs : List (V × Th)) : Prop where
  at_ : H f = some (.lst (zs.map (·.1)))
  th : ∀ z, z ∈ zs → ThAt H z.1 z.2 ∧ ThOk n kd z.2
  nd : (zs.map (·.2)).Nodup
  len : zs.length ≤ 1000
theorem Found.keep {H H' : Hp} {f : Addr} {n : Nat} {kd : Kd} {zs : List (V × Th)} (h : Found H f n kd zs) (tu : Tups H H') (k : ∀ o, H f = some o → H' f = some o) : Found H' f n kd zs :=
  ⟨k _ h.at_, fun z hz => ⟨(h.th z hz).1.tups tu, (h.th z hz).2⟩, h.nd, h.len⟩
theorem Found.same {H H' : Hp} {f : Addr} {n : Nat} {kd : Kd} {zs : List (V × Th)} (h : Found H f n kd zs) (s : Same H H') : Found H' f n kd zs := h.keep (.same s) fun _ e => s _ _ e
def spClosed : Sp := fun vs H Q _ => ∃ (kd : Kd) (n : Nat) (f m : Addr) (zs : List (V × Th)) (xs : List V) (ms : List (Pn n)), vs = [.str (wd kd), .ref f, .ref m] ∧ Found H f n kd zs ∧ zs ≠ [] ∧ H m = some (.lst xs) ∧ PsRel H xs ms ∧ 1 ≤ n ∧ n ≤ 60 ∧
  (∀ z, z ∈ zs → ∀ g, g ∈ ms → mv kd z.2 g ∈ zs.map (·.2)) ∧ ∀ H', Same H H' → Q (.bl true) H'
abbrev clN : List Str := ["_law_word", "_law_found", "_law_makers", "_law_held", "_law_thing_here", "_law_maker_here"]
theorem scClosed : FnScope clN ["_law_word", "_law_found", "_law_makers"] (defScope sLawClosed) := ⟨rfl, rfl, rfl, by decide +kernel, rfl, by decide +kernel, by decide +kernel⟩
theorem fn_closed (T : Tx K mg) : Fn P w K mg base 3 "_law_closed" ["_law_word", "_law_found", "_law_makers"] spClosed := by
  obtain ⟨fd, F⟩ := T.d_LawClosed
  refine ⟨fd, T.g__law_closed, F.kp, F.bindsN fun _ _ _ _ _ _ us hl => match us, hl with | [_, _, _], _ => rfl, F.ok scClosed (fun vs H Q E h => ?_) (fun cdv A outer s H vs Q E hr h => ?_)⟩
  · obtain ⟨kd, n, f, m, zs, xs, ms, rfl, _⟩ := h
    rfl
  · obtain ⟨kd, n, f, m, zs, xs, ms, rfl, hf, hne, hm, hps, h1, h60, hcl, k⟩ := h
    refine ⟨_, PSs.nox (
      pss_cons (ps_set (i := 3) scClosed.nd rfl (Or.inl rfl) pe_dnewK) <|
      pss_cons (ps_for PassesOwn.never rfl (pi_list (pv 1)) (pg_name (i := 4) scClosed.nd rfl (Or.inl rfl)) (pss_one (ps_putT (room16 hr) (pv 3) (pv 4) pe_bl (by rfl)))) <|
      pss_cons (ps_for PassesOwn.never rfl (pi_list (pv 1)) (pg_name (i := 4) scClosed.nd rfl (Or.inl rfl))
        (pss_one (ps_for PassesOwn.never rfl (pi_list (pv 2)) (pg_name (i := 5) scClosed.nd rfl (Or.inl rfl))
          (pss_one (ps_if (pt_cmpR (op_notInT (room16 hr)) (pe_fn (fn_lmoved T) hr rfl (pa_cons (pv 0) (pa_cons (pv 4) (pa_cons (pv 5) pa_nil)))) (pv 3) (by rfl)) (pss_one (ps_ret pe_bl)) pss_nil))))) <|
      pss_one (ps_ret pe_bl)), ?_⟩
    intro d hd
    have s1 : Same H (upd H d (.dK [])) := same_upd hd
    have hd1 : (upd H d (.dK [])) d = some (.dK []) := upd_same
    generalize (upd H d (.dK [])) = H1 at s1 hd1
    refine ⟨_, rfl, f, rfl, ⟨_, SqL.of (s1 _ _ hf.at_)⟩, for_list (K := K) (a := f) (xs := zs.map (·.1)) (fun i σ H2 => ∃ (kvs : List Ent) (v4 : Option V), σ = [some (.str (wd kd)), some (.ref f), some (.ref m), some (.ref d), v4, none] ∧ Same H H2 ∧ RD P w H2 d kvs (kdS kd) ∧ kvs.map (·.1) = (zs.take i).map (·.2))
      ⟨[], none, rfl, s1, ⟨(fun _ h => nomatch h), (fun _ h => nomatch h), .inl ⟨hd1, .inr rfl⟩⟩, rfl⟩ (fun i σ H2 _ ⟨_, _, _, e, _⟩ => SqL.of (e _ _ hf.at_)) ?_ ?_⟩
    · rintro i y σ H2 hi ⟨kvs, v4, rfl, sm, rd, ek⟩
      obtain ⟨z, hz, rfl⟩ := map_get hi
      have hzm := List.mem_of_getElem? hz
      have hil := (List.getElem?_eq_some_iff.mp hz).1
      obtain ⟨t1, t2⟩ := hf.th z hzm
      have hno : z.2 ∉ kvs.map (·.1) := by
        rw [ek]
        intro hm'
        obtain ⟨z', hz', e⟩ := List.mem_map.mp hm'
        obtain ⟨j, hj, e2⟩ := List.getElem_of_mem hz'
        rw [List.length_take] at hj
        rw [List.getElem_take] at e2
        have h2 : (zs.map (·.2))[j]'(by rw [List.length_map]; omega) = (zs.map (·.2))[i]'(by rw [List.length_map]; exact hil) := by
          rw [List.getElem_map, List.getElem_map, e2, (List.getElem?_eq_some_iff.mp hz).2]
          exact e
        have := (List.getElem_inj hf.nd).mp h2
        omega
      have hkl : kvs.length ≤ 1000 := by
        have := congrArg List.length ek
        rw [List.length_map, List.length_map, List.length_take] at this
        have := hf.len
        omega
      refine ⟨_, rfl, _, rfl, d, kvs, z.2, _, rfl, rd, t1.tups (.same sm), shp_ok t2, lk_none_ hno, hkl, fun o rd' => ?_⟩
      refine ⟨_, _, rfl, fun b u e => ?_, rd', ?_⟩
      · rw [upd_ne (ne_of_none e hd)]
        exact sm _ _ e
      · rw [List.map_append, ek, List.take_add_one, hz, List.map_append]
        rfl
    · rintro σ H2 ⟨kvs, v4, rfl, sm, rd, ek⟩
      rw [List.length_map, List.take_length] at ek
      have kne : kvs ≠ [] := fun z => by
        rw [z] at ek
        exact hne (List.map_eq_nil_iff.mp ek.symm)
      have knd : (kvs.map (·.1)).Nodup := by rw [ek]; exact hf.nd
      refine ⟨_, rfl, f, rfl, ⟨_, SqL.of (sm _ _ hf.at_)⟩, for_list (K := K) (a := f) (xs := zs.map (·.1)) (fun i σ H3 => ∃ (v4 v5 : Option V), σ = [some (.str (wd kd)), some (.ref f), some (.ref m), some (.ref d), v4, v5] ∧ Same H2 H3)
        ⟨v4, none, rfl, .refl _⟩ (fun i σ H3 _ ⟨_, _, _, e⟩ => SqL.of (e _ _ (sm _ _ hf.at_))) ?_ ?_⟩
      · rintro i y σ H3 hi ⟨v4, v5, rfl, s3⟩
        obtain ⟨z, hz, rfl⟩ := map_get hi
        have hzm := List.mem_of_getElem? hz
        obtain ⟨t1, t2⟩ := hf.th z hzm
        refine ⟨_, rfl, m, rfl, ⟨_, SqL.of (s3 _ _ (sm _ _ hm))⟩, for_list (K := K) (a := m) (xs := xs) (fun i σ H4 => ∃ v5 : Option V, σ = [some (.str (wd kd)), some (.ref f), some (.ref m), some (.ref d), some z.1, v5] ∧ Same H2 H4)
          ⟨v5, rfl, s3⟩ (fun i σ H4 _ ⟨_, _, e⟩ => SqL.of (e _ _ (sm _ _ hm))) ?_ ?_⟩
        · rintro j y σ H4 hj ⟨v5, rfl, s4⟩
          obtain ⟨g, hg, a, rfl, ha⟩ := paired_get' hps hj
          have hin := hcl z hzm g (List.mem_of_getElem? hg)
          have om : ThOk n kd (mv kd z.2 g) := mv_ok t2 g
          have s04 := sm.trans s4
          refine ⟨_, rfl, _, rfl, _, rfl, kd, n, z.1, a, z.2, g, rfl, t1.tups (.same s04), t2, s04 _ _ ha, h1, h60, fun r H5 s5 hr5 => ?_⟩
          rw [← ek] at hin
          obtain ⟨ent, hent, ee⟩ := List.mem_map.mp hin
          obtain ⟨q, hq⟩ := List.mem_iff_getElem?.mp hent
          have l := lk_some_ knd hq
          rw [ee] at l
          have s25 := s4.trans s5
          refine ⟨_, rfl, d, kvs, _, _, rfl, rd.ex (.same s25) (fun _ e => s25 _ _ e), kne, hr5, shp_ok om, _, rfl, ?_⟩
          rw [l]
          exact iteF ⟨_, rfl, s25⟩
        · rintro σ H4 ⟨v5, rfl, s4⟩
          exact ⟨_, _, rfl, s4⟩
      · rintro σ H3 ⟨v4, v5, rfl, s3⟩
        exact k H3 (sm.trans s3)
end
end K43
/-! W20: _law_good. -/
namespace K43
open PySem PySem.Spec PyProof.Rows L2
theorem room65 {k : Nat} {A : Around} (r : Room k A) : A.units + 65 < cLine := by
  have := r.un
  omega
theorem canLayAll_th : ∀ l : List Th, PyData.canLayAll0 (l.map thD) = true
  | [] => by simp [PyData.canLayAll0]
  | x :: l => by simp [PyData.canLayAll0, canLay_thD x, canLayAll_th l]
theorem depthAll_th : ∀ l : List Th, PyData.depthAll (l.map thD) ≤ 2
  | [] => by simp [PyData.depthAll]
  | x :: l => by
    have h1 := depth_thD x
    have h2 := depthAll_th l
    simp only [List.map_cons, PyData.depthAll]
    omega
theorem shaped_ths (l : List Th) : SeqAt.shaped (.list (l.map thD)) = true := by
  unfold SeqAt.shaped
  have := depthAll_th l
  refine Bool.and_eq_true_iff.mpr ⟨?_, decide_eq_true ?_⟩
  · rw [PyData.canLay0]
    exact canLayAll_th l
  · rw [PyData.depth]
    omega
theorem dpAll_th {K : PySem.W.Frag} {H : Hp} : ∀ {zs : List (V × Th)}, (∀ z, z ∈ zs → ThAt H z.1 z.2) → DpAll K H (zs.map (·.1)) ((zs.map (·.2)).map thD)
  | [], _ => .nil
  | z :: zs, h => .cons (h z List.mem_cons_self).dp (dpAll_th fun y hy => h y (List.mem_cons_of_mem _ hy))
theorem thSz_ok {n : Nat} {k : Kd} {th : Th} (h : ThOk n k th) (h60 : n ≤ 60) : thSz th ≤ 1000 ∧ thDep th ≤ 2 := by
  cases k <;> cases th <;> try exact h.elim
  · exact ⟨Nat.zero_le _, Nat.zero_le _⟩
  · exact ⟨Nat.le_trans h.2 (by decide), by show 1 ≤ 2; decide⟩
  · exact ⟨Nat.le_trans h.2.2.2 (by decide), by show 1 ≤ 2; decide⟩
  · exact ⟨Nat.le_trans h.2.2.2 (by decide), Nat.le_refl 2⟩
  · refine ⟨?_, by show 1 ≤ 2; decide⟩
    have := IsP.len h
    show List.length _ ≤ 1000
    omega
section
variable {P : Program} {w : World} {K : PySem.W.Frag} {mg : Str → Option Value} {base : Heap}
def spGood (P : Program) (w : World) (K : PySem.W.Frag) : Sp := fun vs H Q _ => ∃ (kd : Kd) (n : Nat) (A : RA) (v : V) (m : Addr) (ms : List (Pn n)) (xs ys : List V) (t0 : Th) (kvs : List Ent) (es : List Row), vs = [.str (wd kd), v, .ref A.x, .ref A.gx, .ref m] ∧
  ThAt H v t0 ∧ RB K H A kd ms xs ∧ RR P w H A.d kd ms t0 kvs es ∧ Cl kd ms es es.length 0 ∧ GrAt K H A.gx ms ∧ H m = some (.lst ys) ∧ PsRel H ys ms ∧ es.length ≤ 1000 ∧ 1 ≤ n ∧ n ≤ 60 ∧ ∀ H', Same H H' → Q (.bl true) H'
abbrev goodN : List Str := ["_law_word", "_law_form_here", "_law_ring", "_law_group", "_law_makers", "_law_found", "_law_k", "_law_thing_here", "_law_bringer"]
theorem scGood : FnScope goodN ["_law_word", "_law_form_here", "_law_ring", "_law_group", "_law_makers"] (defScope sLawGood) := ⟨rfl, rfl, rfl, by decide +kernel, rfl, by decide +kernel, by decide +kernel⟩
theorem fn_good (T : Tx K mg) : Fn P w K mg base 7 "_law_good" ["_law_word", "_law_form_here", "_law_ring", "_law_group", "_law_makers"] (spGood P w K) := by
  obtain ⟨fd, F⟩ := T.d_LawGood
  refine ⟨fd, T.g__law_good, F.kp, F.bindsN fun _ _ _ _ _ _ us hl => match us, hl with | [_, _, _, _, _], _ => rfl, F.ok scGood (fun vs H Q E h => ?_) (fun cdv A0 outer s0 H vs Q E hr h => ?_)⟩
  · obtain ⟨kd, n, A, v, m, ms, xs, ys, t0, kvs, es, rfl, _⟩ := h
    rfl
  · obtain ⟨kd, n, A, v, m, ms, xs, ys, t0, kvs, es, rfl, hv, B, R, C, G, hm, hps, hel, h1, h60, k⟩ := h
    refine ⟨_, PSs.nox (
      pss_cons (ps_set (i := 5) scGood.nd rfl (Or.inl rfl) (pe_me0 (me_things T) (pv 2) (hr.mono (by decide)))) <|
      pss_cons (ps_if (PW.pt (pw_or (pt_not (pt_val (pe_callB call_isi rfl T.f_isinstance boot_isinstance (pa_cons (pv 5) (pa_cons (pe_bltn (v := .ty "list") rfl T.f_list (by decide +kernel) rfl) pa_nil)))))
        (pw_or (pt_cmpR (op_notInD (room65 hr)) (pv 1) (pv 5) (by rfl)) (pw_or1 (pt_not (pt_val (pe_callB (cr_all rfl) rfl T.f_all PyProof.Rows.boot_all (pa_cons
          (pe_lc (own := [("_law_thing_here", 7)]) (g := gName 7) (tt := tYes) (te := tCall (spPlain 2) [] E0 (tCons (tVar 7) (tCons (tC (.int 2)) tNil))) rfl scGood.nd (pi_list (pv 5)) (blkOk_by (own := [("_law_thing_here", 7)]) (N := goodN) (sc := defScope sLawGood) (by decide +kernel))
            (fun _ _ _ _ _ => pg_name (i := 7) scGood.nd rfl (Or.inl rfl)) (fun _ _ _ _ _ => pts_nil) (fun _ _ _ _ _ => pe_fn (fn_plain T) (hr.mono (by decide)) rfl (pa_cons (pv 7) (pa_cons pe_int pa_nil)))) pa_nil))))))))
        (pss_one (ps_ret pe_bl)) pss_nil) <|
      pss_cons (ps_for PassesOwn.never rfl (pi_range2 rfl T.f_range (pa_cons pe_int (pa_cons (pe_callB call_len_seq rfl T.f_len boot_len (pa_cons (pv 5) pa_nil)) pa_nil))) (pg_name (i := 6) scGood.nd rfl (Or.inl rfl))
        (pss_one (ps_if (pt_not (pt_cmpR (op_ltT hr.units) (pe_ix ix_list (pv 5) (pe_op op_sub (pv 6) pe_int) (fun _ _ => rfl)) (pe_ix ix_list (pv 5) (pv 6) (fun _ _ => rfl)) (nomark _))) (pss_one (ps_ret pe_bl)) pss_nil))) <|
      pss_cons (ps_for PassesOwn.never rfl (pi_list (pv 5)) (pg_name (i := 7) scGood.nd rfl (Or.inl rfl))
        (pss_cons (ps_set (i := 8) scGood.nd rfl (Or.inl rfl) (pe_me (me_bringer T kd) (pv 2) hr (pa_cons (pv 7) pa_nil))) <|
         pss_cons (ps_if (PW.pt (pw_or (pt_not (pt_val (pe_fn (fn_lturning T) (hr.mono (by decide)) rfl (pa_cons (pv 8) (pa_cons (pe_fld (pv 3) rfl) pa_nil))))) (pw_or1 (pt_not (pt_val (pe_me (me_ghas T) (pv 3) (hr.mono (by decide)) (pa_cons (pv 8) pa_nil))))))) (pss_one (ps_ret pe_bl)) pss_nil) <|
         pss_one (ps_if (pt_cmpR (op_neD hr.units) (pe_fn (fn_lmoved T) (hr.mono (by decide)) rfl (pa_cons (pv 0) (pa_cons (pv 1) (pa_cons (pv 8) pa_nil)))) (pv 7) (nomark _)) (pss_one (ps_ret pe_bl)) pss_nil))) <|
      pss_one (ps_ret (pe_fn (fn_closed T) (hr.mono (by decide)) rfl (pa_cons (pv 0) (pa_cons (pv 5) (pa_cons (pv 4) pa_nil)))))), ?_⟩
    obtain ⟨dg, gr, gst, gxs, gA, gS, gB, hg, _⟩ := G.ex
    -- found = ring.things()
    refine ⟨_, rfl, A.x, A.dx, _, rfl, B.ob, rfl, kd, n, A, ms, t0, kvs, es, rfl, B.ob, R, hel, fun f zs H1 s1 nf hf pm pw => ?_⟩
    have zkeys : ∀ z, z ∈ zs → z.2 ∈ es.map (·.1) ∧ ∃ x, x ∈ kvs ∧ z = kEnt x := fun z hz => by
      obtain ⟨x, hx, e⟩ := List.mem_map.mp (pm.mem_iff.mp hz)
      refine ⟨?_, x, hx, e.symm⟩
      rw [← R.keys, ← e]
      exact List.mem_map.mpr ⟨x, hx, rfl⟩
    have keyz : ∀ t, t ∈ es.map (·.1) → t ∈ zs.map (·.2) := fun t ht => by
      rw [← R.keys] at ht
      obtain ⟨x, hx, e⟩ := List.mem_map.mp ht
      exact List.mem_map.mpr ⟨kEnt x, pm.mem_iff.mpr (List.mem_map.mpr ⟨x, hx, rfl⟩), e⟩
    have e0 : t0 ∈ es.map (·.1) := List.mem_map.mpr ⟨_, List.mem_of_getElem? R.inv.hd, rfl⟩
    have zne : zs ≠ [] := fun e => by
      have := keyz t0 e0
      rw [e] at this
      exact nomatch this
    have zlen : zs.length ≤ 1000 := by
      have := pm.length_eq
      rw [List.length_map, R.len] at this
      omega
    have znd : (zs.map (·.2)).Nodup := by
      have := (pm.map (·.2)).nodup_iff.mpr (by
        rw [List.map_map]
        exact R.nd)
      exact this
    have zth : ∀ z, z ∈ zs → ThAt H z.1 z.2 ∧ ThOk n kd z.2 := fun z hz => by
      obtain ⟨h1, x, hx, rfl⟩ := zkeys z hz
      exact ⟨R.rd.th x hx, R.inv.ok R.ok0 h1⟩
    have F1 : Found H1 f n kd zs := ⟨hf, fun z hz => ⟨(zth z hz).1.tups (.same s1), (zth z hz).2⟩, znd, zlen⟩
    have eds : ((zs.map (·.2)).map thD).any (fun z => PyData.eqv z (thD t0)) = true := by
      refine List.any_eq_true.mpr ⟨thD t0, List.mem_map.mpr ⟨t0, keyz t0 e0, rfl⟩, ?_⟩
      rw [eqv_thD rfl]
      exact decide_eq_true rfl
    -- not isinstance(found, list) or form not in found or not all(..)
    refine ⟨_, rfl, _, _, _, _, true, rfl, .ty _, .base (.lst hf), kit_ty (by decide +kernel), true, rfl, iteF ?_⟩
    refine ⟨_, rfl, _, rfl, thD t0, (zs.map (·.2)).map thD, (hv.tups (.same s1)).dp, .lst (SqL.of hf) (dpAll_th fun z hz => (F1.th z hz).1), shaped_thD t0, shaped_ths _, _, rfl, ?_⟩
    rw [eds]
    refine iteF ?_
    refine ⟨_, rfl, f, rfl, ⟨_, SqL.of hf⟩, fun L hL => lc_list (K := K) (a := f) (xs := zs.map (·.1)) (fun i H2 => Same H1 H2 ∧ H2 L = some (.lst ((List.replicate i true).map V.bl))) ⟨same_upd hL, upd_same⟩ (fun i H2 _ ⟨e, _⟩ => SqL.of (e _ _ hf)) ?_ ?_⟩
    · rintro i y H2 hi ⟨sm, hL2⟩
      obtain ⟨z, hz, rfl⟩ := map_get hi
      have hzm := List.mem_of_getElem? hz
      have hil := (List.getElem?_eq_some_iff.mp hz).1
      obtain ⟨t1, t2⟩ := F1.th z hzm
      obtain ⟨q1, q2⟩ := thSz_ok t2 h60
      refine ⟨rfl, _, rfl, z.1, z.2, 2, rfl, t1.tups (.same sm), q2, q2, q1, fun H3 s3 => ?_⟩
      refine ⟨_, s3 _ _ hL2, by rw [List.length_map, List.length_replicate, sizeLine_eq]; omega, fun b o e => ?_, ?_⟩
      · rw [upd_ne (ne_of_none e hL)]
        exact s3 _ _ (sm _ _ e)
      · rw [upd_same, List.replicate_succ', List.map_append]
        rfl
    · rintro H2 ⟨sm2, hL2⟩
      rw [List.length_map] at hL2
      refine ⟨L, List.replicate zs.length true, rfl, SqL.of hL2, ?_⟩
      have e : (List.replicate zs.length true).all id = true := List.all_eq_true.mpr fun b hb => (List.mem_replicate.mp hb).2
      rw [e]
      refine ⟨true, rfl, iteF ?_⟩
      have F2 := F1.same sm2
      -- for k in range(1, len(found))
      refine ⟨_, rfl, f, _, rfl, .inl (SqL.of F2.at_), 1, ((zs.map (·.1)).length : Int), rfl, ⟨by omega, by omega, by omega, by rw [List.length_map]; omega⟩, for_range (lo := 1) (n := (((zs.map (·.1)).length : Int) - 1).toNat)
        (fun i σ H3 => ∃ v6 : Option V, σ = [some (.str (wd kd)), some v, some (.ref A.x), some (.ref A.gx), some (.ref m), some (.ref f), v6, none, none] ∧ H3 = H2) ⟨none, rfl, rfl⟩ ?_ ?_⟩
      · rintro i σ H3 hi ⟨v6, rfl, rfl⟩
        rw [List.length_map] at hi
        have hi2 : i + 1 < zs.length := by omega
        have g1 : zs[i]? = some zs[i] := List.getElem?_eq_getElem (by omega)
        have g2 : zs[i + 1]? = some zs[i + 1] := List.getElem?_eq_getElem hi2
        have hlt : ltT zs[i].2 zs[i + 1].2 = true := List.pairwise_iff_getElem.mp pw i (i + 1) (by omega) hi2 (by omega)
        obtain ⟨a1, a2⟩ := F2.th _ (List.mem_of_getElem? g1)
        obtain ⟨b1, b2⟩ := F2.th _ (List.mem_of_getElem? g2)
        refine ⟨_, rfl, _, rfl, _, _, rfl, rfl, f, _, _, zs[i].1, rfl, rfl, SqL.of F2.at_, ?_, ?_⟩
        · rw [show (1 : Int) + (i : Int) - 1 = (i : Int) by omega]
          exact atI_natV (by rw [List.getElem?_map, g1]; rfl)
        refine ⟨_, rfl, _, rfl, f, _, _, zs[i + 1].1, rfl, rfl, SqL.of F2.at_, ?_, ?_⟩
        · rw [show (1 : Int) + (i : Int) = ((i + 1 : Nat) : Int) by omega]
          exact atI_natV (by rw [List.getElem?_map, g2]; rfl)
        refine ⟨zs[i].2, zs[i + 1].2, a1, b1, (shp_ok a2).trans (shp_ok b2).symm, _, rfl, ?_⟩
        rw [hlt]
        exact iteF ⟨_, rfl, rfl⟩
      · rintro σ H3 ⟨v6, rfl, rfl⟩
        -- for thing in found
        have s02 := s1.trans sm2
        refine ⟨_, rfl, f, rfl, ⟨_, SqL.of F2.at_⟩, for_list (K := K) (a := f) (xs := zs.map (·.1)) (fun i σ H4 => ∃ v7 v8 : Option V, σ = [some (.str (wd kd)), some v, some (.ref A.x), some (.ref A.gx), some (.ref m), some (.ref f), v6, v7, v8] ∧ Same H3 H4)
          ⟨none, none, rfl, .refl _⟩ (fun i σ H4 _ ⟨_, _, _, e⟩ => SqL.of (e _ _ F2.at_)) ?_ ?_⟩
        · rintro i y σ H4 hi ⟨v7, v8, rfl, s4⟩
          obtain ⟨z, hz, rfl⟩ := map_get hi
          have hzm := List.mem_of_getElem? hz
          have s04 := s02.trans s4
          obtain ⟨t1, t2⟩ := zth z hzm
          -- bringer = ring.bringer(thing)
          refine ⟨_, rfl, A.x, A.dx, _, rfl, (B.same s04).ob, rfl, _, rfl, n, A, ms, xs, t0, kvs, es, z.1, z.2, rfl, B.same s04, R.same s04, hel, h1, h60, t1.tups (.same s04), (zkeys z hzm).1, fun q H5 g s5 hq hgen eth => ?_⟩
          have s05 := s04.trans s5
          -- not turning(..) or not group.has(..)
          refine ⟨_, rfl, _, rfl, A.gx, _, dg, _, _, rfl, s05 _ _ hg, T.c_Group, T.n_Group_many, groupF_many _ _ _ _, n, q, g.1, rfl, hq, g.2, h60, fun H6 s6 => ⟨true, rfl, iteF ?_⟩⟩
          have s06 := s05.trans s6
          refine ⟨_, rfl, A.gx, dg, _, rfl, s06 _ _ hg, rfl, _, rfl, n, A.gx, q, ms, g, rfl, G.same s06, s6 _ _ hq, hgen, h1, h60, fun H7 s7 => ⟨true, rfl, iteF ?_⟩⟩
          have s07 := s06.trans s7
          -- moved(word, form, bringer) != thing
          refine ⟨_, rfl, _, rfl, _, rfl, kd, n, v, q, t0, g, rfl, hv.tups (.same s07), R.ok0, s7 _ _ (s6 _ _ hq), h1, h60, fun u H8 s8 hu => ?_⟩
          have s08 := s07.trans s8
          refine ⟨_, rfl, thD (mv kd t0 g), thD z.2, hu.dp, (t1.tups (.same s08)).dp, shaped_thD _, shaped_thD _, _, rfl, ?_⟩
          rw [← eth, eqv_thD rfl, decide_eq_true rfl]
          exact iteF ⟨_, _, rfl, s4.trans (s5.trans (s6.trans (s7.trans s8)))⟩
        · rintro σ H4 ⟨v7, v8, rfl, s4⟩
          have s04 := s02.trans s4
          refine ⟨_, rfl, _, rfl, _, rfl, kd, n, f, m, zs, ys, ms, rfl, F2.same s4, zne, s04 _ _ hm, hps.tups (.same s04), h1, h60, fun z hz g hg' => keyz _ (C.done (zkeys z hz).1 hg'), fun H5 s5 => k H5 (s04.trans s5)⟩
end
end K43
/-! W21: _law_thing. -/
namespace K43
open PySem PySem.Spec PyProof.Rows L2
/-- a statement whose ends meet -/
def tJoin (t : TS) : TS := fun D σ H => ∃ J : L2.St → Hp → Prop, t { D with nx := J } σ H ∧ ∀ σ' H', J σ' H' → D.nx σ' H'
theorem ps_join {X : Cx} {st : Stmt} {t : TS} (h : PS X st t) : PS X st (tJoin t) := ⟨fun pins s σ H D I hw => by
  obtain ⟨J, q, hJ⟩ := hw
  refine wpAny_mono (h.run pins s σ H { D with nx := J } I q) (fun fl s' x => ?_) fun _ _ z => z
  cases fl with
  | next => obtain ⟨σ', H', I', z⟩ := x; exact ⟨σ', H', I', hJ _ _ z⟩
  | brk => exact x
  | cont => exact x
  | ret u => exact x⟩
theorem cut_take (rl : List Nat) {i : Int} (h : 0 ≤ i) : cutV (rl.map nV) none (some i) = (rl.take i.toNat).map nV := by
  unfold cutV
  rw [HT.sIx_none]
  obtain ⟨k, rfl⟩ : ∃ k : Nat, i = (k : Int) := ⟨i.toNat, by omega⟩
  rw [HT.sIx_nat, List.drop_zero, Nat.sub_zero, List.length_map, Int.toNat_natCast, ← List.map_take]
  refine congrArg (List.map nV) ?_
  by_cases q : k ≤ rl.length
  · rw [Nat.min_eq_left q]
  · rw [Nat.min_eq_right (by omega), List.take_length, List.take_of_length_le (by omega)]
def nxt (rl : List Nat) (i : Nat) : Nat × Nat := (ap rl i, ap rl (i + 1))
theorem ap_inj {rl : List Nat} (hn : rl.Nodup) {i j : Nat} (hi : i < rl.length) (hj : j < rl.length) (e : ap rl i = ap rl j) : i = j := by
  rw [ap_lt hi, ap_lt hj] at e
  exact (List.getElem_inj hn).mp e
theorem ordP_or (a b : Nat) : ordP (a, b) = (a, b) ∨ ordP (a, b) = (b, a) := by
  unfold ordP
  by_cases h : b < a
  · rw [if_pos h]; exact .inr rfl
  · rw [if_neg h]; exact .inl rfl
theorem net_ok {n m : Nat} {rl : List Nat} (hn : rl.Nodup) (hlt : ∀ x, x ∈ rl → x < n) (hm : m + 1 ≤ rl.length) (h60 : rl.length ≤ 60) :
    (∀ p, p ∈ (List.range m).map (nxt rl) → p.1 ≠ p.2 ∧ p.1 < n ∧ p.2 < n) ∧ (((List.range m).map (nxt rl)).map ordP).Nodup ∧ ThOk n .nets (.net (sortP (((List.range m).map (nxt rl)).map ordP))) := by
  have lt : ∀ {i}, i < rl.length → ap rl i < n := fun {i} hi => by
    rw [ap_lt hi]
    exact hlt _ (List.getElem_mem hi)
  have each : ∀ p, p ∈ (List.range m).map (nxt rl) → p.1 ≠ p.2 ∧ p.1 < n ∧ p.2 < n := fun p hp => by
    obtain ⟨i, hi, rfl⟩ := List.mem_map.mp hp
    have hi := List.mem_range.mp hi
    refine ⟨fun e => ?_, lt (by omega), lt (by omega)⟩
    have := ap_inj hn (by omega) (by omega) e
    omega
  have nd : (((List.range m).map (nxt rl)).map ordP).Nodup := by
    rw [List.map_map]
    refine List.nodup_iff_pairwise_ne.mpr (List.pairwise_map.mpr ((List.nodup_iff_pairwise_ne.mp List.nodup_range).imp_of_mem fun {i j} hi hj hij e => hij ?_))
    have hi := List.mem_range.mp hi
    have hj := List.mem_range.mp hj
    have e : ordP (ap rl i, ap rl (i + 1)) = ordP (ap rl j, ap rl (j + 1)) := e
    rcases ordP_or (ap rl i) (ap rl (i + 1)) with a | a <;> rcases ordP_or (ap rl j) (ap rl (j + 1)) with b | b
    · rw [a, b] at e
      exact ap_inj hn (by omega) (by omega) (Prod.mk.inj e).1
    · rw [a, b] at e
      have e1 := ap_inj hn (by omega) (by omega) (Prod.mk.inj e).1
      have e2 := ap_inj hn (by omega) (by omega) (Prod.mk.inj e).2
      omega
    · rw [a, b] at e
      have e1 := ap_inj hn (by omega) (by omega) (Prod.mk.inj e).1
      have e2 := ap_inj hn (by omega) (by omega) (Prod.mk.inj e).2
      omega
    · rw [a, b] at e
      have := ap_inj hn (by omega) (by omega) (Prod.mk.inj e).2
      omega
  refine ⟨each, nd, fun p hp => ?_, (sortP_perm _).nodup_iff.mpr nd, sortP_le _, ?_⟩
  · obtain ⟨q, hq, rfl⟩ := List.mem_map.mp ((sortP_perm _).mem_iff.mp hp)
    obtain ⟨h1, h2, h3⟩ := each q hq
    rw [ordP_mm]
    show min q.1 q.2 < max q.1 q.2 ∧ max q.1 q.2 < n
    omega
  · rw [(sortP_perm _).length_eq, List.length_map, List.length_map, List.length_range]
    omega
section
variable {P : Program} {w : World} {K : PySem.W.Frag} {mg : Str → Option Value} {base : Heap}
/-- a list that was just made, a place, or a turning -/
def IsL (H H' : Hp) (v : V) : Prop := (∃ l ys, v = .ref l ∧ H' l = some (.lst ys) ∧ H l = none) ∨ (∃ j, v = nV j) ∨ ∃ a p, v = .ref a ∧ PermAt H' a p
def spThing (K : PySem.W.Frag) : Sp := fun vs H Q _ => ∃ (z : Int) (n : Nat) (l : Addr) (wn : List Nat), vs = [.int z, .int (n : Int), .ref l] ∧ H l = some (.lst (wn.map nV)) ∧ wn.Nodup ∧ (∀ x, x ∈ wn → x < n) ∧ wn ≠ [] ∧ wn.length ≤ 60 ∧ 1 ≤ n ∧ n ≤ 60 ∧
  ∀ r H' kd v th, Same H H' → H r = none → H' r = some (.lst [.str (wd kd), v]) → RawAt n H' kd v th → ThOk n kd th → FormAt H' kd v th → IsL H H' v → Q (.ref r) H'
abbrev thN : List Str := ["_law_cell_here", "_law_many", "_law_window", "_law_kind", "_law_near", "_law_row", "_law_k"]
theorem scThing : FnScope thN ["_law_cell_here", "_law_many", "_law_window"] (defScope sLawThing) := ⟨rfl, rfl, rfl, by decide +kernel, rfl, by decide +kernel, by decide +kernel⟩
theorem fn_thing (T : Tx K mg) : Fn P w K mg base 3 "_law_thing" ["_law_cell_here", "_law_many", "_law_window"] (spThing K) := by
  obtain ⟨fd, F⟩ := T.d_LawThing
  refine ⟨fd, T.g__law_thing, F.kp, F.bindsN fun _ _ _ _ _ _ us hl => match us, hl with | [_, _, _], _ => rfl, F.ok scThing (fun vs H Q E h => ?_) (fun cdv A0 outer s0 H vs Q E hr h => ?_)⟩
  · obtain ⟨z, n, l, wn, rfl, _⟩ := h
    rfl
  · obtain ⟨z, n, l, wn, rfl, hl, hn, hw, hwne, hwl, h1, h60, k⟩ := h
    refine ⟨_, PSs.nox (
      pss_cons (ps_asg (pe_callB call_divmod rfl T.f_divmod PyProof.Rows.boot_divmod (pa_cons (pv 0) (pa_cons pe_int pa_nil))) (pg_tup rfl (pgs_cons (pg_name (i := 0) scThing.nd rfl (Or.inr rfl)) (pgs_cons (pg_name (i := 3) scThing.nd rfl (Or.inl rfl)) pgs_nil)))) <|
      pss_cons (ps_asg (pe_callB call_divmod rfl T.f_divmod PyProof.Rows.boot_divmod (pa_cons (pv 0) (pa_cons pe_int pa_nil))) (pg_tup rfl (pgs_cons (pg_name (i := 0) scThing.nd rfl (Or.inr rfl)) (pgs_cons (pg_name (i := 4) scThing.nd rfl (Or.inl rfl)) pgs_nil)))) <|
      pss_cons (ps_set (i := 5) scThing.nd rfl (Or.inr rfl) (pe_fn (fn_order T) (hr.mono (by decide)) rfl (pa_cons (pv 0) (pa_cons (pv 1) pa_nil)))) <|
      pss_cons (ps_join (ps_if (pt_cmpR op_eq (pv 4) pe_int (nomark _)) (pss_one (ps_set (i := 5) scThing.nd rfl (Or.inr rfl)
        (pe_lc (own := [("_law_k", 6)]) (g := gName 6) (tt := tYes) (te := tOp (rIxL K) (tVar 2) (tVar 6)) rfl scThing.nd (pi_list (pe_fn (fn_order T) (hr.mono (by decide)) rfl (pa_cons (pv 0) (pa_cons (pe_callB call_len_seq rfl T.f_len boot_len (pa_cons (pv 2) pa_nil)) pa_nil)))) (blkOk_by (own := [("_law_k", 6)]) (N := thN) (sc := defScope sLawThing) (by decide +kernel))
          (fun _ _ _ _ _ => pg_name (i := 6) scThing.nd rfl (Or.inl rfl)) (fun _ _ _ _ _ => pts_nil) (fun _ _ _ _ _ => pe_ix (r := rIxL K) ix_list (pv 2) (pv 6) (fun _ _ => rfl))))) pss_nil)) <|
      pss_cons (ps_if (pt_cmpR op_eq (pv 3) pe_int (nomark _)) (pss_one (ps_ret (pe_lst (pa_cons pe_str (pa_cons (pe_ix ix_list (pv 5) pe_int (fun _ _ => rfl)) pa_nil))))) pss_nil) <|
      pss_cons (ps_if (pt_cmpR op_eq (pv 3) pe_int (nomark _)) (pss_one (ps_ret (pe_lst (pa_cons pe_str (pa_cons
        (pe_lc (own := [("_law_k", 6)]) (g := gName 6) (tt := tYes) (te := tOp (rIxL K) (tVar 5) (tOp (rI (fun _ j => 0 < j) fun i j => .int (i % j)) (tOp (rI CDiv fun i j => .int (i / j)) (tVar 0) (tOp (rI0 fun i j => .int (i + j)) (tVar 6) (tC (.int 1)))) (tCB (fun xs H Q => ∃ p ys, xs = [.ref p] ∧ (SqL K H p ys ∨ SqT K H p ys) ∧ Q (.int ys.length) H) (tCons (tVar 5) tNil)))) rfl scThing.nd
          (pi_range1 rfl T.f_range (pa_cons (pe_op op_mod (pe_op op_fdiv (pv 0) pe_int) pe_int) pa_nil)) (blkOk_by (own := [("_law_k", 6)]) (N := thN) (sc := defScope sLawThing) (by decide +kernel))
          (fun _ _ _ _ _ => pg_name (i := 6) scThing.nd rfl (Or.inl rfl)) (fun _ _ _ _ _ => pts_nil)
          (fun _ _ _ _ _ => pe_ix (r := rIxL K) ix_list (pv 5) (pe_op op_mod (pe_op op_fdiv (pv 0) (pe_op op_add (pv 6) pe_int)) (pe_callB call_len_seq rfl T.f_len boot_len (pa_cons (pv 5) pa_nil))) (fun _ _ => rfl))) pa_nil))))) pss_nil) <|
      pss_cons (ps_if (pt_cmpR op_eq (pv 3) pe_int (nomark _)) (pss_one (ps_ret (pe_lst (pa_cons pe_str (pa_cons (pe_slice sl_list (pv 5) po_none (po_some (pe_op op_mod (pe_op op_fdiv (pv 0) pe_int) pe_int))) pa_nil))))) pss_nil) <|
      pss_cons (ps_if (PW.pt (pw_and (pt_cmpR op_eq (pv 3) pe_int (nomark _)) (pw_and1 (pt_cmpR op_gt (pe_callB call_len_seq rfl T.f_len boot_len (pa_cons (pv 5) pa_nil)) pe_int (nomark _))))) (pss_one (ps_ret (pe_lst (pa_cons pe_str (pa_cons
        (pe_lc (own := [("_law_k", 6)]) (g := gName 6) (tt := tYes) (te := tTup (tCons (tOp (rIxL K) (tVar 5) (tVar 6)) (tCons (tOp (rIxL K) (tVar 5) (tOp (rI0 fun i j => .int (i + j)) (tVar 6) (tC (.int 1)))) tNil))) rfl scThing.nd
          (pi_range1 rfl T.f_range (pa_cons (pe_callB (call_min2 rfl) rfl T.f_min PyProof.Rows.boot_min (pa_cons (pe_op op_sub (pe_callB call_len_seq rfl T.f_len boot_len (pa_cons (pv 5) pa_nil)) pe_int) (pa_cons (pe_op op_add pe_int (pe_op op_mod (pe_op op_fdiv (pv 0) pe_int) pe_int)) pa_nil))) pa_nil)) (blkOk_by (own := [("_law_k", 6)]) (N := thN) (sc := defScope sLawThing) (by decide +kernel))
          (fun _ _ _ _ _ => pg_name (i := 6) scThing.nd rfl (Or.inl rfl)) (fun _ _ _ _ _ => pts_nil)
          (fun _ _ _ _ _ => pe_tup (pa_cons (pe_ix (r := rIxL K) ix_list (pv 5) (pv 6) (fun _ _ => rfl)) (pa_cons (pe_ix (r := rIxL K) ix_list (pv 5) (pe_op op_add (pv 6) pe_int) (fun _ _ => rfl)) pa_nil)))) pa_nil))))) pss_nil) <|
      pss_one (ps_ret (pe_lst (pa_cons pe_str (pa_cons (pe_fn (fn_maker T) hr rfl (pa_cons (pe_op op_fdiv (pv 0) pe_int) (pa_cons (pe_slice sl_list (pv 5) po_none (po_some pe_int)) (pa_cons (pv 1) pa_nil)))) pa_nil))))), ?_⟩
    -- the two divmods
    refine ⟨_, rfl, _, _, rfl, ⟨by decide, by decide⟩, fun p1 hp1 => ?_⟩
    have s1 : Same H (upd H p1 (.tup [.int (z / 5), .int (z % 5)])) := same_upd hp1
    have t1 : (upd H p1 (.tup [.int (z / 5), .int (z % 5)])) p1 = some (.tup [.int (z / 5), .int (z % 5)]) := upd_same
    generalize (upd H p1 (.tup [.int (z / 5), .int (z % 5)])) = H1 at s1 t1
    have c0 : 0 ≤ z % 5 := Int.emod_nonneg z (by decide)
    have c5 : z % 5 < 5 := Int.emod_lt_of_pos z (by decide)
    refine ⟨p1, _, rfl, SqT.of t1, rfl, _, _, rfl, _, _, rfl, rfl, ?_⟩
    generalize z % 5 = c at t1 c0 c5
    generalize z / 5 = z1 at t1
    refine ⟨_, rfl, _, _, rfl, ⟨by decide, by decide⟩, fun p2 hp2 => ?_⟩
    have s2 : Same H1 (upd H1 p2 (.tup [.int (z1 / 2), .int (z1 % 2)])) := same_upd hp2
    have t2 : (upd H1 p2 (.tup [.int (z1 / 2), .int (z1 % 2)])) p2 = some (.tup [.int (z1 / 2), .int (z1 % 2)]) := upd_same
    generalize (upd H1 p2 (.tup [.int (z1 / 2), .int (z1 % 2)])) = H2 at s2 t2
    refine ⟨p2, _, rfl, SqT.of t2, rfl, _, _, rfl, _, _, rfl, rfl, ?_⟩
    generalize z1 % 2 = nr at t2
    generalize z1 / 2 = z2 at t2
    have s02 := s1.trans s2
    -- row = _law_order(cell, many)
    refine ⟨_, rfl, _, rfl, z2, n, rfl, h60, fun R H3 rl s3 hR nR ip => ?_⟩
    have s03 := s02.trans s3
    -- if near == 1
    refine ⟨fun σ H' => ∃ (R : Addr) (rl : List Nat), σ = [some (.int z2), some (.int (n : Int)), some (.ref l), some (.int c), some (.int nr), some (.ref R), none] ∧ Same H H' ∧ H' R = some (.lst (rl.map nV)) ∧ rl.Nodup ∧ (∀ x, x ∈ rl → x < n) ∧ rl ≠ [] ∧ rl.length ≤ 60, ?_, ?_⟩
    · refine ⟨_, rfl, rfl, _, rfl, ?_⟩
      refine ite2 (fun _ => ?_) (fun _ => ?_)
      · refine ⟨_, rfl, _, rfl, l, _, rfl, .inl (SqL.of (s03 _ _ hl)), z2, wn.length, by rw [List.length_map]; rfl, hwl, fun o H4 ol s4 ho no io => ⟨o, rfl, ⟨_, SqL.of ho⟩, fun D hD => lc_list (K := K) (a := o) (xs := ol.map nV)
          (fun i H5 => Same H4 H5 ∧ H5 D = some (.lst (((ol.take i).map (ap wn)).map nV))) ⟨same_upd hD, upd_same⟩ (fun i H5 _ ⟨e, _⟩ => SqL.of (e _ _ ho)) ?_ ?_⟩⟩
        · rintro i y H5 hi ⟨sm, hD5⟩
          obtain ⟨x, hx, rfl⟩ := map_get hi
          have hxw : x < wn.length := io.mem_lt x (List.mem_of_getElem? hx)
          have hil := (List.getElem?_eq_some_iff.mp hx).1
          have hil2 : i < wn.length := by rw [← io.len]; exact hil
          refine ⟨rfl, _, rfl, _, rfl, l, _, _, _, rfl, rfl, SqL.of (sm _ _ (s4 _ _ (s03 _ _ hl))), atI_natV (v := nV (ap wn x)) (by rw [List.getElem?_map, ap_get hxw]; rfl), _, hD5, ?_, fun b u e => ?_, ?_⟩
          · rw [List.length_map, List.length_map, List.length_take, sizeLine_eq]
            omega
          · rw [upd_ne (ne_of_none e hD)]
            exact sm _ _ e
          · rw [upd_same, List.take_add_one, hx, List.map_append, List.map_append]
            rfl
        · rintro H5 ⟨sm, hD5⟩
          rw [List.length_map, List.take_length] at hD5
          refine ⟨D, ol.map (ap wn), rfl, s03.trans (s4.trans sm), hD5, ?_, fun x hx => ?_, fun e => ?_, by rw [List.length_map, io.len]; exact hwl⟩
          · refine List.nodup_iff_pairwise_ne.mpr (List.pairwise_map.mpr ((List.nodup_iff_pairwise_ne.mp io.nodup).imp_of_mem fun {a b} ha hb hab e => hab (ap_inj hn (io.mem_lt a ha) (io.mem_lt b hb) e)))
          · obtain ⟨y, hy, rfl⟩ := List.mem_map.mp hx
            have := io.mem_lt y hy
            rw [ap_lt this]
            exact hw _ (List.getElem_mem this)
          · have := congrArg List.length e
            rw [List.length_map, io.len] at this
            exact hwne (List.eq_nil_of_length_eq_zero this)
      · exact ⟨R, rl, rfl, s03, hR, ip.nodup, ip.mem_lt, fun e => by
          have := ip.len
          rw [e] at this
          have : 0 = n := this
          omega, by rw [ip.len]; exact h60⟩
    rintro σ H4 ⟨R, rl, rfl, s4, hR, rnd, rlt, rne, rlen⟩
    have fr : ∀ {D : Addr}, H4 D = none → H D = none := fun {D} e => s4.free e
    have hz7 : 0 ≤ z2 / 7 % 5 := Int.emod_nonneg _ (by decide)
    have hz75 : z2 / 7 % 5 < 5 := Int.emod_lt_of_pos _ (by decide)
    have hz79 : 0 ≤ z2 / 7 % 9 := Int.emod_nonneg _ (by decide)
    have hz74 : 0 ≤ z2 / 7 % 4 := Int.emod_nonneg _ (by decide)
    have hz744 : z2 / 7 % 4 < 4 := Int.emod_lt_of_pos _ (by decide)
    have rl0 : 0 < rl.length := List.length_pos_iff.mpr rne
    have hc : c = 0 ∨ c = 1 ∨ c = 2 ∨ c = 3 ∨ c = 4 := by omega
    have turns : ∀ (p : Addr) (H5 H6 : Hp) (g : Pn n), Same H4 H6 → PermAt H6 p g.1 → ∀ r, H6 r = none → Q (.ref r) (upd H6 r (.lst [.str "turns", .ref p])) := fun p _ H6 g s6 hp r hr' => by
      have s7 : Same H6 (upd H6 r (.lst [.str "turns", .ref p])) := same_upd hr'
      exact k r _ .turns (.ref p) (.row g.1) (s4.trans (s6.trans s7)) (fr (s6.free hr')) upd_same ⟨p, _, rfl, s7 _ _ hp, rfl, g.2⟩ g.2 ⟨p, rfl, s7 _ _ hp⟩ (.inr (.inr ⟨p, _, rfl, s7 _ _ hp⟩))
    have c6 : cutV (rl.map nV) none (some 6) = (rl.take 6).map nV := cut_take rl (by decide)
    rcases hc with rfl | rfl | rfl | rfl | rfl
    · -- places
      refine ⟨_, rfl, rfl, _, rfl, iteT ?_⟩
      obtain ⟨x0, rest, rfl⟩ : ∃ x0 rest, rl = x0 :: rest := by
        cases rl with
        | nil => exact absurd rfl rne
        | cons a b => exact ⟨a, b, rfl⟩
      refine ⟨_, rfl, R, _, _, nV x0, rfl, rfl, SqL.of hR, (show atI _ ((0 : Nat) : Int) = _ from atI_natV rfl), (by show 2 ≤ sizeLine; decide), fun r hr' => ?_⟩
      exact k r _ .places (nV x0) (.pl x0) (s4.trans (same_upd hr')) (fr hr') upd_same ⟨x0, rfl, rfl, rlt x0 List.mem_cons_self⟩ (rlt x0 List.mem_cons_self) rfl (.inr (.inl ⟨x0, rfl⟩))
    · -- lists
      refine ⟨_, rfl, rfl, _, rfl, iteF ⟨_, rfl, rfl, _, rfl, iteT ?_⟩⟩
      refine ⟨_, rfl, _, _, rfl, rfl, ⟨by decide, by decide⟩, _, _, rfl, rfl, (by show (0 : Int) < 5; decide), _, rfl, by omega, by omega, fun D hD => lc_range (lo := 0) (n := (z2 / 7 % 5).toNat)
        (fun i H5 => ∃ xs : List Nat, Same H4 H5 ∧ H5 D = some (.lst (xs.map nV)) ∧ xs.length = i ∧ ∀ x, x ∈ xs → x ∈ rl) ⟨[], same_upd hD, upd_same, rfl, fun _ h => nomatch h⟩ ?_ ?_⟩
      · rintro i H5 hi ⟨xs, sm, hD5, xl, xm⟩
        have hlp : (0 : Int) < ((rl.map nV).length : Int) := by rw [List.length_map]; omega
        have m1 := Int.emod_nonneg (z2 / ((0 : Int) + (i : Int) + 1)) (by omega : ((rl.map nV).length : Int) ≠ 0)
        have m2 := Int.emod_lt_of_pos (z2 / ((0 : Int) + (i : Int) + 1)) hlp
        obtain ⟨j, hj⟩ : ∃ j : Nat, (z2 / ((0 : Int) + (i : Int) + 1)) % ((rl.map nV).length : Int) = (j : Int) := ⟨((z2 / ((0 : Int) + (i : Int) + 1)) % ((rl.map nV).length : Int)).toNat, by omega⟩
        have hjl : j < rl.length := by
          rw [hj] at m2
          rw [List.length_map] at m2
          omega
        refine ⟨rfl, _, rfl, _, rfl, _, rfl, _, _, rfl, rfl, _, _, rfl, rfl, ⟨by omega, by omega⟩, _, rfl, R, _, rfl, .inl (SqL.of (sm _ _ hR)), _, _, rfl, rfl, hlp, R, _, _, nV rl[j], rfl, rfl, SqL.of (sm _ _ hR), ?_, ?_⟩
        · rw [hj]
          exact atI_natV (by rw [List.getElem?_map, List.getElem?_eq_getElem hjl]; rfl)
        refine ⟨_, hD5, by rw [List.length_map, xl, sizeLine_eq]; omega, xs ++ [rl[j]], fun b u e => ?_, ?_, by rw [List.length_append, List.length_singleton, xl], fun x hx => ?_⟩
        · rw [upd_ne (ne_of_none e hD)]
          exact sm _ _ e
        · rw [upd_same, List.map_append]
          rfl
        · rcases List.mem_append.mp hx with q | q
          · exact xm x q
          · rw [List.mem_singleton.mp q]
            exact List.getElem_mem hjl
      · rintro H5 ⟨xs, sm, hD5, xl, xm⟩
        refine ⟨(by show 2 ≤ sizeLine; decide), fun r hr' => ?_⟩
        have s6 : Same H5 (upd H5 r (.lst [.str "lists", .ref D])) := same_upd hr'
        have xlen : xs.length ≤ 60 := by omega
        exact k r _ .lists (.ref D) (.row xs) (s4.trans (sm.trans s6)) (fr (sm.free hr')) upd_same ⟨D, xs, rfl, .inl (s6 _ _ hD5), rfl, xlen, fun x hx => rlt x (xm x hx)⟩ ⟨fun x hx => rlt x (xm x hx), xlen⟩ ⟨D, xs, rfl, s6 _ _ hD5, rfl⟩ (.inl ⟨D, _, rfl, s6 _ _ hD5, fr hD⟩)
    · -- sets
      refine ⟨_, rfl, rfl, _, rfl, iteF ⟨_, rfl, rfl, _, rfl, iteF ⟨_, rfl, rfl, _, rfl, iteT ?_⟩⟩⟩
      refine ⟨_, rfl, _, rfl, _, _, rfl, rfl, ⟨by decide, by decide⟩, _, _, rfl, rfl, (by show (0 : Int) < 9; decide), _, rfl, R, _, rfl, SqL.of hR, fun D hD => ?_⟩
      rw [cut_take rl hz79]
      have s5 : Same H4 (upd H4 D (.lst ((rl.take (z2 / 7 % 9).toNat).map nV))) := same_upd hD
      have hD5 : (upd H4 D (.lst ((rl.take (z2 / 7 % 9).toNat).map nV))) D = some (.lst ((rl.take (z2 / 7 % 9).toNat).map nV)) := upd_same
      generalize (upd H4 D (.lst ((rl.take (z2 / 7 % 9).toNat).map nV))) = H5 at s5 hD5
      generalize (z2 / 7 % 9).toNat = mm at hD5
      have tl : (rl.take mm).length ≤ 60 := by rw [List.length_take]; omega
      have tlt : ∀ x, x ∈ rl.take mm → x < n := fun x hx => rlt x (List.mem_of_mem_take hx)
      have tnd : (rl.take mm).Nodup := rnd.sublist (List.take_sublist _ _)
      refine ⟨(by show 2 ≤ sizeLine; decide), fun r hr' => ?_⟩
      have s6 : Same H5 (upd H5 r (.lst [.str "sets", .ref D])) := same_upd hr'
      exact k r _ .sets (.ref D) (.row (sortN (rl.take mm))) (s4.trans (s5.trans s6)) (fr (s5.free hr')) upd_same ⟨D, _, rfl, .inl (s6 _ _ hD5), rfl, tl, tlt, tnd⟩
        ⟨fun x hx => tlt x ((sortN_perm _).mem_iff.mp hx), (sortN_perm _).nodup_iff.mpr tnd, sortN_le _, by rw [(sortN_perm _).length_eq]; exact tl⟩ ⟨D, _, rfl, s6 _ _ hD5, rfl⟩ (.inl ⟨D, _, rfl, s6 _ _ hD5, fr hD⟩)
    · -- nets, or turns
      refine ⟨_, rfl, rfl, _, rfl, iteF ⟨_, rfl, rfl, _, rfl, iteF ⟨_, rfl, rfl, _, rfl, iteF ?_⟩⟩⟩
      refine ⟨_, rfl, rfl, _, rfl, iteT ⟨_, rfl, R, _, rfl, .inl (SqL.of hR), _, _, rfl, rfl, _, rfl, ?_⟩⟩
      refine ite2 (fun hgt => ?_) (fun _ => ?_)
      · have hgt : 1 < rl.length := by
          have q := of_decide_eq_true hgt
          rw [List.length_map] at q
          omega
        refine ⟨_, rfl, R, _, rfl, .inl (SqL.of hR), _, _, rfl, rfl, _, rfl, _, _, rfl, rfl, ⟨by decide, by decide⟩, _, _, rfl, rfl, (by show (0 : Int) < 4; decide), _, _, rfl, rfl, _, _, rfl, ?_⟩
        obtain ⟨mm, hmm, hm1, hm4⟩ : ∃ mm : Nat, (if (1 + z2 / 7 % 4) < (((rl.map nV).length : Int) - 1) then (1 + z2 / 7 % 4) else (((rl.map nV).length : Int) - 1)) = (mm : Int) ∧ mm + 1 ≤ rl.length ∧ mm ≤ 4 := by
          rw [List.length_map]
          refine ⟨(if (1 + z2 / 7 % 4) < ((rl.length : Int) - 1) then (1 + z2 / 7 % 4) else ((rl.length : Int) - 1)).toNat, ?_, ?_, ?_⟩ <;> split <;> omega
        rw [hmm]
        obtain ⟨o1, o2, o3⟩ := net_ok rnd rlt hm1 rlen
        refine ⟨(mm : Int), rfl, by omega, by omega, fun D hD => lc_range (lo := 0) (n := ((mm : Int)).toNat)
          (fun i H5 => ∃ bs : List Addr, Same H4 H5 ∧ H5 D = some (.lst (bs.map V.ref)) ∧ Paired (PairAt H5) bs ((List.range i).map (nxt rl))) ⟨[], same_upd hD, upd_same, .nil⟩ ?_ ?_⟩
        · rintro i H5 hi ⟨bs, sm, hD5, pp⟩
          rw [Int.toNat_natCast] at hi
          have i1 : i < rl.length := by omega
          have i2 : i + 1 < rl.length := by omega
          refine ⟨rfl, _, rfl, _, rfl, R, _, _, nV (ap rl i), rfl, rfl, SqL.of (sm _ _ hR), ?_, ?_⟩
          · rw [Int.zero_add]
            exact atI_natV (by rw [List.getElem?_map, ap_get i1]; rfl)
          refine ⟨_, rfl, _, rfl, _, _, rfl, rfl, R, _, _, nV (ap rl (i + 1)), rfl, rfl, SqL.of (sm _ _ hR), ?_, (by show 2 ≤ sizeLine; decide), fun q nq => ?_⟩
          · rw [show (0 : Int) + (i : Int) + 1 = ((i + 1 : Nat) : Int) by omega]
            exact atI_natV (by rw [List.getElem?_map, ap_get i2]; rfl)
          have s6 : Same H5 (upd H5 q (.tup [nV (ap rl i), nV (ap rl (i + 1))])) := same_upd nq
          have hq : PairAt (upd H5 q (.tup [nV (ap rl i), nV (ap rl (i + 1))])) q (nxt rl i) := upd_same
          generalize (upd H5 q (.tup [nV (ap rl i), nV (ap rl (i + 1))])) = H6 at s6 hq
          have hbl : bs.length = i := by
            have := Paired.length pp
            rw [this, List.length_map, List.length_range]
          have hD6 := s6 _ _ hD5
          have tu : Tups H6 (upd H6 D (.lst (bs.map V.ref ++ [V.ref q]))) := Tups.upd hD6 fun _ z => nomatch z
          refine ⟨_, hD6, by rw [List.length_map, hbl, sizeLine_eq]; omega, bs ++ [q], fun b u e => ?_, by rw [List.map_append]; exact upd_same, ?_⟩
          · rw [upd_ne (ne_of_none e hD)]
            exact s6 _ _ (sm _ _ e)
          · rw [List.range_succ, List.map_append]
            exact paired_append (Paired.mapP pp fun _ _ z => tu _ _ (s6 _ _ z)) (.cons (tu _ _ hq) .nil)
        · rintro H5 ⟨bs, sm, hD5, pp⟩
          rw [Int.toNat_natCast] at pp
          refine ⟨(by show 2 ≤ sizeLine; decide), fun r hr' => ?_⟩
          have s6 : Same H5 (upd H5 r (.lst [.str "nets", .ref D])) := same_upd hr'
          have pp6 := Paired.mapP pp fun _ _ z => (s6 _ _ z : PairAt (upd H5 r (.lst [.str "nets", .ref D])) _ _)
          have pl : ((List.range mm).map (nxt rl)).length ≤ 60 := by rw [List.length_map, List.length_range]; omega
          exact k r _ .nets (.ref D) _ (s4.trans (sm.trans s6)) (fr (sm.free hr')) upd_same ⟨D, _, _, rfl, .inl (s6 _ _ hD5), raw_pairs pp6, rfl, pl, o1, o2⟩ o3 ⟨D, bs, _, rfl, s6 _ _ hD5, pp6, pl, rfl⟩ (.inl ⟨D, _, rfl, s6 _ _ hD5, fr hD⟩)
      · refine ⟨_, rfl, _, _, rfl, rfl, ⟨by decide, by decide⟩, _, rfl, _, rfl, R, _, rfl, SqL.of hR, fun p hp => ?_⟩
        rw [c6]
        have s5 : Same H4 (upd H4 p (.lst ((rl.take 6).map nV))) := same_upd hp
        refine ⟨_, rfl, z2 / 7, p, rl.take 6, n, rfl, upd_same, rnd.sublist (List.take_sublist _ _), fun x hx => rlt x (List.mem_of_mem_take hx), by rw [List.length_take]; omega, h60, fun t H6 g s6 hg _ _ => ⟨(by show 2 ≤ sizeLine; decide), fun r hr' => turns t H6 H6 g (s5.trans s6) hg r hr'⟩⟩
    · -- turns
      refine ⟨_, rfl, rfl, _, rfl, iteF ⟨_, rfl, rfl, _, rfl, iteF ⟨_, rfl, rfl, _, rfl, iteF ?_⟩⟩⟩
      refine ⟨_, rfl, rfl, _, rfl, iteF (iteF ?_)⟩
      refine ⟨_, rfl, _, _, rfl, rfl, ⟨by decide, by decide⟩, _, rfl, _, rfl, R, _, rfl, SqL.of hR, fun p hp => ?_⟩
      rw [c6]
      have s5 : Same H4 (upd H4 p (.lst ((rl.take 6).map nV))) := same_upd hp
      refine ⟨_, rfl, z2 / 7, p, rl.take 6, n, rfl, upd_same, rnd.sublist (List.take_sublist _ _), fun x hx => rlt x (List.mem_of_mem_take hx), by rw [List.length_take]; omega, h60, fun t H6 g s6 hg _ _ => ⟨(by show 2 ≤ sizeLine; decide), fun r hr' => turns t H6 H6 g (s5.trans s6) hg r hr'⟩⟩
end
end K43
/-! W22: law. -/
namespace K43
open PySem PySem.Spec PyProof.Rows L2
theorem cut_ints (ns : List Int) (a b : Option Int) : ∃ ks : List Int, cutV (ns.map V.int) a b = ks.map V.int ∧ ks.length ≤ ns.length := by
  unfold cutV
  rw [← List.map_drop, ← List.map_take]
  refine ⟨_, rfl, ?_⟩
  rw [List.length_take, List.length_drop]
  omega
theorem eqvAll_th : ∀ l : List Th, PyData.eqvAll (l.map thD) (l.map thD) = true
  | [] => by simp [PyData.eqvAll]
  | x :: l => by
    rw [List.map_cons, PySem.W.eqv_all_cons, eqv_thD rfl, decide_eq_true rfl, eqvAll_th l]
    rfl
theorem ltT_asymm {a b : Th} (h : ltT a b = true) (k : ltT b a = true) : False := by
  have t := (PyProof.Rows.listOrd PyProof.Rows.itemOrd).trans _ _ _ h k
  have i := (PyProof.Rows.listOrd PyProof.Rows.itemOrd).irrefl (PySem.W.keyToks (thD a))
  rw [t] at i
  cases i
theorem same_sort {l m : List (V × Th)} (hp : l.Perm m) (h1 : l.Pairwise (fun a b => ltT a.2 b.2 = true)) (h2 : m.Pairwise (fun a b => ltT a.2 b.2 = true)) : l = m :=
  List.Perm.eq_of_pairwise (le := fun a b : V × Th => ltT a.2 b.2 = true) (fun a b _ _ x y => (ltT_asymm x y).elim) h1 h2 hp
section
variable {P : Program} {w : World} {K : PySem.W.Frag} {mg : Str → Option Value} {base : Heap}
def spLaw (K : PySem.W.Frag) : Sp := fun vs H Q _ => ∃ (a : Addr) (ns : List Int), vs = [.ref a] ∧ ns.length ≤ 63 ∧ SqL K H a (ns.map V.int) ∧ ∀ H', Q (.bl true) H'
abbrev lawN : List Str := ["_law_script", "_law_many", "_law_window", "_law_makers", "_law_handed", "_law_group", "_law_rings", "_law_cell_here", "_law_word", "_law_thing_here", "_law_form_here", "_law_ring", "_law_told", "_law_k", "_law_row"]
theorem scLaw : FnScope lawN ["_law_script"] (defScope sLaw) := ⟨rfl, rfl, rfl, by decide +kernel, rfl, by decide +kernel, by decide +kernel⟩
/-- a ring and what it told -/
structure RowOk (P : Program) (w : World) (K : PySem.W.Frag) (Hg H : Hp) (Rg : Addr) {n : Nat} (ms : List (Pn n)) (b : Addr) : Prop where
  ex : ∃ (kd : Kd) (A : RA) (t0 : Th) (kvs : List Ent) (es : List Row) (c : Addr) (zs : List (V × Th)), H b = some (.lst [.ref A.x, .ref c]) ∧ H A.x = some (.ins (He.ga K "Ring") A.dx (ringF A.gx A.ax A.mx A.d)) ∧ RR P w H A.d kd ms t0 kvs es ∧ es.length ≤ 1000 ∧
    H c = some (.lst (zs.map (·.1))) ∧ zs.Perm (kvs.map kEnt) ∧ zs.Pairwise (fun a b => ltT a.2 b.2 = true) ∧ b ≠ Rg ∧ c ≠ Rg ∧ Hg b = none ∧ Hg c = none
theorem RowOk.keep {Hg H H' : Hp} {Rg X : Addr} {n : Nat} {ms : List (Pn n)} {b : Addr} (r : RowOk P w K Hg H Rg ms b) {ls : List V} (hX : H X = some (.lst ls)) (hx : X = Rg ∨ ∃ o, Hg X = some o) (k : ∀ b o, H b = some o → b ≠ X → H' b = some o) : RowOk P w K Hg H' Rg ms b := by
  obtain ⟨kd, A, t0, kvs, es, c, zs, h1, h2, h3, h4, h5, h6, h7, h8, h9, h10, h11⟩ := r.ex
  have tu : Tups H H' := fun b ys e => k _ _ e (ne_of e hX fun z => nomatch z)
  have nb : b ≠ X := fun z => by
    rcases hx with e | ⟨o, e⟩
    · exact h8 (z.trans e)
    · rw [← z, h10] at e
      cases e
  have nc : c ≠ X := fun z => by
    rcases hx with e | ⟨o, e⟩
    · exact h9 (z.trans e)
    · rw [← z, h11] at e
      cases e
  refine ⟨kd, A, t0, kvs, es, c, zs, k _ _ h1 nb, k _ _ h2 (ne_of h2 hX fun z => nomatch z), h3.keep tu fun o e => k _ _ e ?_, h4, k _ _ h5 nc, h6, h7, h8, h9, h10, h11⟩
  obtain ⟨u, eu, _, hl, _⟩ := h3.rd.obj
  exact ne_of eu hX (hl ls)
theorem RowOk.same {Hg H H' : Hp} {Rg : Addr} {n : Nat} {ms : List (Pn n)} {b : Addr} (r : RowOk P w K Hg H Rg ms b) (s : Same H H') : RowOk P w K Hg H' Rg ms b := by
  obtain ⟨kd, A, t0, kvs, es, c, zs, h1, h2, h3, h4, h5, h⟩ := r.ex
  exact ⟨kd, A, t0, kvs, es, c, zs, s _ _ h1, s _ _ h2, h3.same s, h4, s _ _ h5, h⟩
def spTold2 (K : PySem.W.Frag) : Sp := fun vs H Q _ => ∃ (n : Nat) (x dx r c st : Addr) (xs : List V), vs = [.ref x] ∧ H x = some (.ins (He.ga K "Group") dx (groupF r n c st)) ∧ H r = some (.lst xs) ∧ ∀ H' l, Same H H' → H' l = some (.lst xs) → H l = none → Q (.ref l) H'
theorem me_told2 (T : Tx K mg) : Me P w K mg base 1 (He.ga K "Group") "told" ["self"] (spTold2 K) := by
  obtain ⟨fd, F⟩ := T.d_GroupTold
  refine ⟨fd, _, T.c_Group, T.m_Group_told, F.bindsN fun _ _ _ _ _ _ us hl => match us, hl with | [_], _ => rfl, F.ok scTold (fun vs H Q E h => ?_) (fun cdv A0 outer s H vs Q E hr h => ?_)⟩
  · obtain ⟨n, x, dx, r, c, st, xs, rfl, _⟩ := h
    rfl
  · obtain ⟨n, x, dx, r, c, st, xs, rfl, hx, hr', k⟩ := h
    refine ⟨_, PSs.nox (pss_one (ps_ret (pe_callTy call_list_of rfl T.f_list boot_list (pa_cons (pe_fld (pv 0) rfl) pa_nil)))), ?_⟩
    exact ⟨_, rfl, x, _, dx, _, _, rfl, hx, T.c_Group, T.n_Group_made, groupF_made _ _ _ _, r, xs, rfl, .inl (SqL.of hr'), fun l hl => k _ l (same_upd hl) upd_same hl⟩
theorem law_ok (T : Tx K mg) {fd : FuncData} (F : FunD K "law" "law" (defArgs sLaw) (defBody sLaw) (defScope sLaw) [] [] (He.ga K "law") fd) : FnOk P w K mg base CX0 8 (He.ga K "law") fd ["_law_script"] (spLaw K) := by
  refine F.ok scLaw (fun vs H Q E h => ?_) (fun cdv A0 outer s0 H vs Q E hr h => ?_)
  · obtain ⟨a, ns, rfl, _⟩ := h
    rfl
  · obtain ⟨a, ns, rfl, hnl, hs, k⟩ := h
    refine ⟨_, PSs.nox (
      pss_cons (ps_set (i := 1) scLaw.nd rfl (Or.inr rfl) (pe_op op_add pe_int (pe_op op_mod (pe_fn (fn_cell T) (hr.mono (by decide)) rfl (pa_cons (pv 0) (pa_cons pe_int pa_nil))) pe_int))) <|
      pss_cons (ps_set (i := 2) scLaw.nd rfl (Or.inr rfl) (pe_slice sl_list (pe_fn (fn_order T) (hr.mono (by decide)) rfl (pa_cons (pe_fn (fn_cell T) (hr.mono (by decide)) rfl (pa_cons (pv 0) (pa_cons pe_int pa_nil))) (pa_cons (pv 1) pa_nil))) po_none
        (po_some (pe_op op_add pe_int (pe_op op_mod (pe_fn (fn_cell T) (hr.mono (by decide)) rfl (pa_cons (pv 0) (pa_cons pe_int pa_nil))) pe_int))))) <|
      pss_cons (ps_setLc (i := 3) (own := [("_law_k", 13)]) (g := gName 13) (tt := tYes) (te := tCall (spMaker K) [] E0 (tCons (tCall (spCell K) [] E0 (tCons (tVar 0) (tCons (tOp (rI0 fun i j => .int (i + j)) (tC (.int 3)) (tVar 13)) tNil))) (tCons (tVar 2) (tCons (tVar 1) tNil)))) rfl scLaw.nd rfl rfl (sw_true rfl rfl rfl (by decide +kernel))
        (pi_range1 rfl T.f_range (pa_cons (pe_op op_mod (pe_op op_fdiv (pe_fn (fn_cell T) (hr.mono (by decide)) rfl (pa_cons (pv 0) (pa_cons pe_int pa_nil))) pe_int) pe_int) pa_nil)) (blkOk_by (own := [("_law_k", 13)]) (N := lawN) (sc := defScope sLaw) (by decide +kernel))
        (fun _ _ _ _ _ => pg_name (i := 13) scLaw.nd rfl (Or.inl rfl)) (fun _ _ _ _ _ => pts_nil)
        (fun _ _ _ _ _ => pe_fn (fn_maker T) (hr.mono (by decide)) rfl (pa_cons (pe_fn (fn_cell T) (hr.mono (by decide)) rfl (pa_cons (pv 0) (pa_cons (pe_op op_add pe_int (pv 13)) pa_nil))) (pa_cons (pv 2) (pa_cons (pv 1) pa_nil))))) <|
      pss_cons (ps_set (i := 4) scLaw.nd rfl (Or.inl rfl) (pe_callTy call_list_of rfl T.f_list boot_list (pa_cons (pv 3) pa_nil))) <|
      pss_cons (ps_set (i := 5) scLaw.nd rfl (Or.inl rfl) (pe_mc (mc_group T) hr rfl (pa_cons (pv 1) (pa_cons (pv 4) pa_nil)))) <|
      pss_cons (ps_set (i := 6) scLaw.nd rfl (Or.inl rfl) (pe_lst pa_nil)) <|
      pss_cons (ps_for PassesOwn.never rfl (pi_list (pe_op op_cat (pe_slice sl_list (pv 0) (po_some pe_int) (po_some pe_int)) (pe_lst (pa_cons (pe_fn (fn_cell T) (hr.mono (by decide)) rfl (pa_cons (pv 0) (pa_cons pe_int pa_nil))) pa_nil)))) (pg_name (i := 7) scLaw.nd rfl (Or.inl rfl)) (
        pss_cons (ps_asg (pe_fn (fn_thing T) (hr.mono (by decide)) rfl (pa_cons (pv 7) (pa_cons (pv 1) (pa_cons (pv 2) pa_nil)))) (pg_unl rfl (pgs_cons (pg_name (i := 8) scLaw.nd rfl (Or.inl rfl)) (pgs_cons (pg_name (i := 9) scLaw.nd rfl (Or.inl rfl)) pgs_nil)))) <|
        pss_cons (ps_set (i := 10) scLaw.nd rfl (Or.inl rfl) (pe_fn (fn_form T) (hr.mono (by decide)) rfl (pa_cons (pv 8) (pa_cons (pv 9) pa_nil)))) <|
        pss_cons (ps_set (i := 11) scLaw.nd rfl (Or.inl rfl) (pe_mc (mc_ring T) (hr.mono (by decide)) rfl (pa_cons (pv 5) (pa_cons (pe_fn (fn_act T) (hr.mono (by decide)) rfl (pa_cons (pv 8) (pa_cons (pv 1) pa_nil))) (pa_cons (pv 9) pa_nil))))) <|
        pss_cons (ps_if (pt_not (pt_val (pe_fn (fn_good T) hr rfl (pa_cons (pv 8) (pa_cons (pv 10) (pa_cons (pv 11) (pa_cons (pv 5) (pa_cons (pv 3) pa_nil)))))))) (pss_one (ps_ret pe_bl)) pss_nil) <|
        pss_cons (ps_join (ps_if (pt_val (pe_callB call_isi rfl T.f_isinstance boot_isinstance (pa_cons (pv 9) (pa_cons (pe_bltn (v := .ty "list") rfl T.f_list (by decide +kernel) rfl) pa_nil)))) (pss_one (ps_expr (pe_bm0 PySem.F.plainAttrs_list PySem.F.slot_list_clear PySem.F.type_list_clear mt_clear (pv 9)))) pss_nil)) <|
        pss_cons (ps_set (i := 12) scLaw.nd rfl (Or.inl rfl) (pe_me0 (me_things T) (pv 11) (hr.mono (by decide)))) <|
        pss_cons (ps_expr (pe_bm PySem.F.plainAttrs_list PySem.F.slot_list_append PySem.F.type_list_append mt_append (pv 6) (pa_cons (pe_lst (pa_cons (pv 11) (pa_cons (pe_callTy call_list_of rfl T.f_list boot_list (pa_cons (pv 12) pa_nil)) pa_nil))) pa_nil))) <|
        pss_one (ps_expr (pe_bm PySem.F.plainAttrs_list PySem.F.slot_list_append PySem.F.type_list_append mt_append (pv 12) (pa_cons (pe_ix ix_list (pv 12) pe_int (fun _ _ => rfl)) pa_nil))))) <|
      pss_cons (ps_expr (pe_bm0 PySem.F.plainAttrs_list PySem.F.slot_list_clear PySem.F.type_list_clear mt_clear (pv 4))) <|
      pss_cons (ps_expr (pe_bm PySem.F.plainAttrs_list PySem.F.slot_list_append PySem.F.type_list_append mt_append (pe_me0 (me_told2 T) (pv 5) (hr.mono (by decide))) (pa_cons pe_int pa_nil))) <|
      pss_one (ps_ret (pe_callB (cr_all rfl) rfl T.f_all PyProof.Rows.boot_all (pa_cons
        (pe_lc (own := [("_law_row", 14)]) (g := gName 14) (tt := tYes) (te := tOp (rEqD K) (tMeth (He.ga K "Ring") "things" (spThings P w K) [] E0 (tOp (rIxL K) (tVar 14) (tC (.int 0))) tNil) (tOp (rIxL K) (tVar 14) (tC (.int 1)))) rfl scLaw.nd (pi_list (pv 6)) (blkOk_by (own := [("_law_row", 14)]) (N := lawN) (sc := defScope sLaw) (by decide +kernel))
          (fun _ _ _ _ _ => pg_name (i := 14) scLaw.nd rfl (Or.inl rfl)) (fun _ _ _ _ _ => pts_nil)
          (fun _ _ _ _ _ => pe_cmpR (op_eqD hr.units) (pe_me0 (me_things T) (pe_ix (r := rIxL K) ix_list (pv 14) pe_int (fun _ _ => rfl)) (hr.mono (by decide))) (pe_ix (r := rIxL K) ix_list (pv 14) pe_int (fun _ _ => rfl)) (nomark _))) pa_nil)))), ?_⟩
    -- many
    obtain ⟨n, hn⟩ : ∃ n : Nat, 1 + cellOf ns 0 % 60 = (n : Int) := ⟨(1 + cellOf ns 0 % 60).toNat, by have := Int.emod_nonneg (cellOf ns 0) (by decide : (60 : Int) ≠ 0); omega⟩
    have h1 : 1 ≤ n := by have := Int.emod_nonneg (cellOf ns 0) (by decide : (60 : Int) ≠ 0); omega
    have h60 : n ≤ 60 := by have := Int.emod_lt_of_pos (cellOf ns 0) (by decide : (0 : Int) < 60); omega
    refine ⟨_, rfl, a, ns, 0, rfl, hs, _, _, rfl, rfl, (by show (0 : Int) < 60; decide), _, _, rfl, rfl, ?_⟩
    show _
    simp only [hn]
    -- window
    refine ⟨_, rfl, a, ns, 1, rfl, hs, _, rfl, cellOf ns 1, n, rfl, h60, fun R H1 ol s1 hR nR ip => ?_⟩
    refine ⟨_, rfl, a, ns, 2, rfl, SqL_same hs s1, _, _, rfl, rfl, (by show (0 : Int) < 4; decide), _, _, rfl, rfl, _, rfl, R, _, rfl, SqL.of hR, fun W hW => ?_⟩
    have w0 := Int.emod_nonneg (cellOf ns 2) (by decide : (4 : Int) ≠ 0)
    have w4 := Int.emod_lt_of_pos (cellOf ns 2) (by decide : (0 : Int) < 4)
    rw [cut_take ol (by omega)]
    obtain ⟨win, hwin⟩ : ∃ win : List Nat, ol.take (1 + cellOf ns 2 % 4).toNat = win := ⟨_, rfl⟩
    rw [hwin]
    have wnd : win.Nodup := by rw [← hwin]; exact ip.nodup.sublist (List.take_sublist _ _)
    have wlt : ∀ x, x ∈ win → x < n := fun x hx => by rw [← hwin] at hx; exact ip.mem_lt x (List.mem_of_mem_take hx)
    have wl4 : win.length ≤ 4 := by rw [← hwin, List.length_take]; omega
    have wne : win ≠ [] := fun e => by
      have := congrArg List.length (hwin.trans e)
      rw [List.length_take, ip.len] at this
      have : min (1 + cellOf ns 2 % 4).toNat n = 0 := this
      omega
    have s2 : Same H1 (upd H1 W (.lst (win.map nV))) := same_upd hW
    have hW2 : (upd H1 W (.lst (win.map nV))) W = some (.lst (win.map nV)) := upd_same
    generalize (upd H1 W (.lst (win.map nV))) = H2 at s2 hW2
    have s02 := s1.trans s2
    -- makers
    have q0 := Int.emod_nonneg (cellOf ns 2 / 4) (by decide : (4 : Int) ≠ 0)
    have q4 := Int.emod_lt_of_pos (cellOf ns 2 / 4) (by decide : (0 : Int) < 4)
    refine ⟨_, rfl, a, ns, 2, rfl, SqL_same hs s02, _, _, rfl, rfl, ⟨by decide, by decide⟩, _, _, rfl, rfl, (by show (0 : Int) < 4; decide), _, rfl, by omega, by omega, fun M hM => lc_range (lo := 0) (n := (cellOf ns 2 / 4 % 4).toNat)
      (fun i H3 => ∃ (xs : List V) (ms : List (Pn n)), Same H2 H3 ∧ H3 M = some (.lst xs) ∧ PsRel H3 xs ms ∧ (∀ m, m ∈ ms → Win win m) ∧ xs.length = i) ⟨[], [], same_upd hM, upd_same, .nil, (fun _ h => nomatch h), rfl⟩ ?_ ?_⟩
    · rintro i H3 hi ⟨xs, ms, sm, hM3, hps, hw, hxl⟩
      refine ⟨rfl, _, rfl, _, rfl, _, _, rfl, rfl, a, ns, 3 + i, by rw [show ((3 + i : Nat) : Int) = 3 + (0 + (i : Int)) by omega]; rfl, SqL_same hs (s02.trans sm), _, rfl, _, rfl, cellOf ns (3 + i), W, win, n, rfl, sm _ _ hW2, wnd, wlt, by omega, h60, fun r H4 p s4 hp nr hwp => ?_⟩
      have hM4 := s4 _ _ hM3
      have tu : Tups H4 (upd H4 M (.lst (xs ++ [V.ref r]))) := Tups.upd hM4 fun _ z => nomatch z
      refine ⟨_, hM4, by rw [hxl, sizeLine_eq]; omega, xs ++ [.ref r], ms ++ [p], fun b o e => ?_, upd_same, ?_, fun m hm => ?_, by rw [List.length_append, List.length_singleton, hxl]⟩
      · rw [upd_ne (ne_of_none e hM)]
        exact s4 _ _ (sm _ _ e)
      · exact paired_append (PsRel.tups hps ((Tups.same s4).trans tu)) (.cons ⟨r, rfl, tu _ _ hp⟩ .nil)
      · rcases List.mem_append.mp hm with z | z
        · exact hw m z
        · rw [List.mem_singleton.mp z]
          exact hwp
    rintro H3 ⟨xs, ms, s3, hM3, hps, hw, hxl⟩
    have s03 := s02.trans s3
    have hml : ms.length ≤ 4 := by
      have := Paired.length hps
      omega
    -- handed
    refine ⟨_, rfl, M, _, rfl, .inl (SqL.of hM3), fun Hd hHd => ?_⟩
    have s4 : Same H3 (upd H3 Hd (.lst xs)) := same_upd hHd
    have hHd4 : (upd H3 Hd (.lst xs)) Hd = some (.lst xs) := upd_same
    generalize (upd H3 Hd (.lst xs)) = H4 at s4 hHd4
    -- group
    refine ⟨_, rfl, _, rfl, fun g dg ng ndg ngd => ?_⟩
    have s45 : Same H4 (upd (upd H4 dg (.own g)) g (.ins (He.ga K "Group") dg [])) := Same.made ng ndg fun _ _ e _ => e
    refine ⟨n, win, g, dg, Hd, xs, ms, rfl, upd_same, s45 _ _ hHd4, (hps.tups (.same s4)).tups (.same s45), hw, wnd, wl4, by omega, h1, h60, fun H6 kp6 G => ⟨rfl, ?_⟩⟩
    have s46 : Same H4 H6 := Same.made ng ndg kp6
    have s36 := s4.trans s46
    have s06 := s03.trans s36
    have hM6 := s36 _ _ hM3
    have hHd6 := s46 _ _ hHd4
    have hW6 := s36 _ _ (s3 _ _ hW2)
    have hps6 := hps.tups (.same s36)
    -- rings
    refine ⟨(by show 0 ≤ sizeLine; decide), fun Rg hRg => ?_⟩
    have s7 : Same H6 (upd H6 Rg (.lst [])) := same_upd hRg
    have hRg7 : (upd H6 Rg (.lst [])) Rg = some (.lst (([] : List Addr).map V.ref)) := upd_same
    generalize (upd H6 Rg (.lst [])) = H7 at s7 hRg7
    -- the cells
    refine ⟨_, rfl, _, rfl, _, rfl, a, _, rfl, SqL_same hs (s06.trans s7), fun S hS => ?_⟩
    obtain ⟨ks, eks, hks⟩ := cut_ints ns (some 6) (some 9)
    rw [eks]
    have s8 : Same H7 (upd H7 S (.lst (ks.map V.int))) := same_upd hS
    have hS8 : (upd H7 S (.lst (ks.map V.int))) S = some (.lst (ks.map V.int)) := upd_same
    generalize (upd H7 S (.lst (ks.map V.int))) = H8 at s8 hS8
    refine ⟨_, rfl, a, ns, 0, rfl, SqL_same hs ((s06.trans s7).trans s8), (by show 1 ≤ sizeLine; decide), fun S2 hS2 => ?_⟩
    have s9 : Same H8 (upd H8 S2 (.lst [.int (cellOf ns 0)])) := same_upd hS2
    have hS29 : (upd H8 S2 (.lst [.int (cellOf ns 0)])) S2 = some (.lst [.int (cellOf ns 0)]) := upd_same
    generalize (upd H8 S2 (.lst [.int (cellOf ns 0)])) = H9 at s9 hS29
    refine ⟨S, S2, _, _, rfl, rfl, s9 _ _ hS8, hS29, by rw [List.length_map, List.length_singleton, sizeLine_eq]; omega, fun It hIt => ?_⟩
    have eit : ks.map V.int ++ [V.int (cellOf ns 0)] = (ks ++ [cellOf ns 0]).map V.int := by rw [List.map_append]; rfl
    rw [eit]
    have s10 : Same H9 (upd H9 It (.lst ((ks ++ [cellOf ns 0]).map V.int))) := same_upd hIt
    have hIt10 : (upd H9 It (.lst ((ks ++ [cellOf ns 0]).map V.int))) It = some (.lst ((ks ++ [cellOf ns 0]).map V.int)) := upd_same
    generalize (upd H9 It (.lst ((ks ++ [cellOf ns 0]).map V.int))) = H10 at s10 hIt10
    have s710 := s8.trans (s9.trans s10)
    have itRg : It ≠ Rg := fun z => by
      rw [z, s9 _ _ (s8 _ _ hRg7)] at hIt
      cases hIt
    have clen : (ks ++ [cellOf ns 0]).length ≤ 64 := by rw [List.length_append, List.length_singleton]; omega
    generalize (ks ++ [cellOf ns 0]) = cs at hIt10 clen
    refine ⟨It, rfl, ⟨_, SqL.of hIt10⟩, for_list (K := K) (a := It) (xs := cs.map V.int)
      (fun i σ H' => ∃ (v7 v8 v9 v10 v11 v12 : Option V) (rs : List Addr), σ = [some (.ref a), some (.int (n : Int)), some (.ref W), some (.ref M), some (.ref Hd), some (.ref g), some (.ref Rg), v7, v8, v9, v10, v11, v12, none, none] ∧ Same H6 H' ∧ H' Rg = some (.lst (rs.map V.ref)) ∧ rs.length = i ∧
        (∀ b, b ∈ rs → RowOk P w K H6 H' Rg ms b) ∧ H' It = some (.lst (cs.map V.int)))
      ⟨none, none, none, none, none, none, [], rfl, s7.trans s710, s710 _ _ hRg7, rfl, (fun _ h => nomatch h), hIt10⟩ (fun i σ H' _ ⟨_, _, _, _, _, _, _, _, _, _, _, _, e⟩ => SqL.of e) ?_ ?_⟩
    · rintro i y σ J1 hi ⟨v7, v8, v9, v10, v11, v12, rs, rfl, t1, hRg1, rl, rok, hIt1⟩
      obtain ⟨cell, hcell, rfl⟩ := map_get hi
      have hil := (List.getElem?_eq_some_iff.mp hcell).1
      -- word, thing = _law_thing(..)
      refine ⟨_, rfl, _, rfl, _, rfl, cell, n, W, win, rfl, t1 _ _ hW6, wnd, wlt, wne, by omega, h1, h60, fun r J2 kd v th t2 nr hr2 raw ok form isl => ?_⟩
      refine ⟨r, _, rfl, SqL.of hr2, rfl, _, _, rfl, _, _, rfl, rfl, ?_⟩
      -- form
      refine ⟨_, rfl, _, rfl, kd, v, th, rfl, form, fun u J3 t3 hu => ?_⟩
      -- ring
      refine ⟨_, rfl, _, rfl, _, rfl, kd, n, rfl, fun ax J4 t4 hax => ?_⟩
      refine ⟨_, rfl, fun x dx nx ndx ndxx => ?_⟩
      have t14 := t2.trans (t3.trans t4)
      have tm : Same J4 (upd (upd J4 dx (.own x)) x (.ins (He.ga K "Ring") dx [])) := Same.made nx ndx fun _ _ e _ => e
      refine ⟨kd, n, x, dx, g, ax, v, ms, win, th, rfl, upd_same, (G.same (t1.trans t14)).same tm, hax.same tm, (raw.same (t3.trans t4)).same tm, ok, hw, wnd, wl4, h1, h60, by omega, fun J5 A xs5 kvs es eA eG hel kp5 nmx nd B R C => ⟨rfl, ?_⟩⟩
      subst eA
      have t45 : Same J4 J5 := Same.made nx ndx kp5
      have t15 := t14.trans t45
      have t65 := t1.trans t15
      -- if not good
      refine ⟨_, rfl, _, rfl, _, rfl, _, rfl, _, rfl, kd, n, A, u, M, ms, xs5, xs, th, kvs, es, by rw [eG]; rfl, hu.tups (.same (t4.trans t45)), B, R, C, by rw [eG]; exact G.same t65, t65 _ _ hM6, hps6.tups (.same t65), by omega, h1, h60, fun J6 t6 => ⟨true, rfl, iteF ?_⟩⟩
      have t16 := t15.trans t6
      have B6 := B.same t6
      have R6 := R.same t6
      -- if isinstance(thing, list): thing.clear()
      refine ⟨fun σ' H' => σ' = [some (.ref a), some (.int (n : Int)), some (.ref W), some (.ref M), some (.ref Hd), some (.ref g), some (.ref Rg), some (.int cell), some (.str (wd kd)), some v, some u, some (.ref A.x), v12, none, none] ∧ Same J1 H' ∧ H' A.x = some (.ins (He.ga K "Ring") A.dx (ringF A.gx A.ax A.mx A.d)) ∧ RR P w H' A.d kd ms th kvs es, ?_, ?_⟩
      · rcases isl with ⟨l, ys, rfl, hl, nl⟩ | ⟨j, rfl⟩ | ⟨b, p, rfl, hb⟩
        · have hl6 := t6 _ _ (t45 _ _ (t4 _ _ (t3 _ _ hl)))
          refine ⟨_, rfl, _, _, _, _, true, rfl, .ty _, .base (.lst hl6), kit_ty (by decide +kernel), true, rfl, iteT ?_⟩
          refine ⟨_, rfl, .inl ⟨rfl, _, SqL.of hl6⟩, l, _, rfl, rfl, hl6, rfl, fun b o e => ?_, ?_, ?_⟩
          · rw [upd_ne (ne_of_none e nl)]
            exact t16 _ _ e
          · rw [upd_ne (ne_of B6.ob hl6 fun z => nomatch z)]
            exact B6.ob
          · refine R6.keep (Tups.upd hl6 fun _ z => nomatch z) fun o e => ?_
            obtain ⟨u', eu, _, hu2, _⟩ := R6.rd.obj
            rw [upd_ne (ne_of eu hl6 (hu2 ys))]
            exact e
        · exact ⟨_, rfl, _, _, _, _, false, rfl, .ty _, .base (.int _), kit_ty (by decide +kernel), false, rfl, iteF ⟨rfl, t16, B6.ob, R6⟩⟩
        · have hb6 := t6 _ _ (t45 _ _ (t4 _ _ (t3 _ _ hb)))
          exact ⟨_, rfl, _, _, _, _, false, rfl, .ty _, .base (.tup hb6), kit_ty (by decide +kernel), false, rfl, iteF ⟨rfl, t16, B6.ob, R6⟩⟩
      rintro σ J7 ⟨rfl, t17, ob7, R7⟩
      -- told
      refine ⟨_, rfl, A.x, A.dx, _, rfl, ob7, rfl, kd, n, A, ms, th, kvs, es, rfl, ob7, R7, by omega, fun p zs J8 t8 np hp pm pw => ?_⟩
      have t18 := t17.trans t8
      have R8 := R7.same t8
      have ob8 := t8 _ _ ob7
      have zlen : zs.length ≤ 24 := by
        have := pm.length_eq
        rw [List.length_map, R7.len] at this
        omega
      have zne : zs ≠ [] := fun e => by
        have := pm.length_eq
        rw [e, List.length_map] at this
        exact R7.ne (List.eq_nil_of_length_eq_zero this.symm)
      have hRg8 := t18 _ _ hRg1
      -- rings.append([ring, list(told)])
      refine ⟨_, rfl, .inl ⟨rfl, _, SqL.of hRg8⟩, _, rfl, _, rfl, p, _, rfl, .inl (SqL.of hp), fun c hc => ?_⟩
      have t9 : Same J8 (upd J8 c (.lst (zs.map (·.1)))) := same_upd hc
      have hc9 : (upd J8 c (.lst (zs.map (·.1)))) c = some (.lst (zs.map (·.1))) := upd_same
      generalize (upd J8 c (.lst (zs.map (·.1)))) = J9 at t9 hc9
      refine ⟨(by show 2 ≤ sizeLine; decide), fun b hb => ?_⟩
      have t10 : Same J9 (upd J9 b (.lst [.ref A.x, .ref c])) := same_upd hb
      have hb10 : (upd J9 b (.lst [.ref A.x, .ref c])) b = some (.lst [.ref A.x, .ref c]) := upd_same
      generalize (upd J9 b (.lst [.ref A.x, .ref c])) = J10 at t10 hb10
      have t810 := t9.trans t10
      have hRg10 := t810 _ _ hRg8
      have hp10 := t810 _ _ hp
      have cRg : c ≠ Rg := fun z => by rw [z, hRg8] at hc; cases hc
      have bRg : b ≠ Rg := fun z => by rw [z, t9 _ _ hRg8] at hb; cases hb
      have pRg : p ≠ Rg := fun z => by rw [z, t17 _ _ hRg1] at np; cases np
      have cp : c ≠ p := fun z => by rw [z, hp] at hc; cases hc
      have bp : b ≠ p := fun z => by rw [z, t9 _ _ hp] at hb; cases hb
      refine ⟨Rg, _, _, rfl, rfl, hRg10, by rw [List.length_map, rl, sizeLine_eq]; omega, ?_⟩
      -- told.append(told[0])
      obtain ⟨z0, zr, ez⟩ : ∃ z0 zr, zs = z0 :: zr := by
        cases zs with
        | nil => exact absurd rfl zne
        | cons x y => exact ⟨x, y, rfl⟩
      have hp11 : (upd J10 Rg (.lst (rs.map V.ref ++ [.ref b]))) p = some (.lst (zs.map (·.1))) := by rw [upd_ne pRg]; exact hp10
      refine ⟨_, rfl, .inl ⟨rfl, _, SqL.of hp11⟩, _, rfl, p, _, _, z0.1, rfl, rfl, SqL.of hp11, (show atI _ ((0 : Nat) : Int) = _ from atI_natV (by rw [ez]; rfl)), p, _, _, rfl, rfl, hp11, by rw [List.length_map, sizeLine_eq]; omega, ?_⟩
      have keep : ∀ b' o, J10 b' = some o → b' ≠ Rg → b' ≠ p → (upd (upd J10 Rg (.lst (rs.map V.ref ++ [.ref b]))) p (.lst (zs.map (·.1) ++ [z0.1]))) b' = some o := fun b' o e h1 h2 => by
        rw [upd_ne h2, upd_ne h1]
        exact e
      have keepJ : ∀ b' o, J1 b' = some o → b' ≠ Rg → (upd (upd J10 Rg (.lst (rs.map V.ref ++ [.ref b]))) p (.lst (zs.map (·.1) ++ [z0.1]))) b' = some o := fun b' o e h1 =>
        keep _ _ (t810 _ _ (t18 _ _ e)) h1 (ne_of_none (t17 _ _ e) np)
      have tu10 : Tups J10 (upd (upd J10 Rg (.lst (rs.map V.ref ++ [.ref b]))) p (.lst (zs.map (·.1) ++ [z0.1]))) := (Tups.upd hRg10 fun _ z => nomatch z).trans (Tups.upd hp11 fun _ z => nomatch z)
      have hRgz : (upd (upd J10 Rg (.lst (rs.map V.ref ++ [.ref b]))) p (.lst (zs.map (·.1) ++ [z0.1]))) Rg = some (.lst ((rs ++ [b]).map V.ref)) := by
        rw [upd_ne (Ne.symm pRg), upd_same, List.map_append]
        rfl
      generalize (upd (upd J10 Rg (.lst (rs.map V.ref ++ [.ref b]))) p (.lst (zs.map (·.1) ++ [z0.1]))) = Jz at keep keepJ tu10 hRgz
      refine ⟨_, _, _, _, _, _, rs ++ [b], rfl, fun b' o e => keepJ _ _ (t1 _ _ e) (ne_of_none e hRg), hRgz, by rw [List.length_append, List.length_singleton, rl], fun b' hb' => ?_, keepJ _ _ hIt1 itRg⟩
      rcases List.mem_append.mp hb' with z | z
      · exact (rok b' z).keep hRg1 (.inl rfl) keepJ
      · rw [List.mem_singleton.mp z]
        have R10 := R8.same t810
        have ob10 := t810 _ _ ob8
        refine ⟨kd, A, th, kvs, es, c, zs, keep _ _ hb10 bRg bp, keep _ _ ob10 (ne_of ob10 hRg10 fun z => nomatch z) (ne_of ob10 hp10 fun z => nomatch z), R10.keep tu10 fun o e => ?_, by omega, keep _ _ (t10 _ _ hc9) cRg cp, pm, pw, bRg, cRg, ?_, ?_⟩
        · obtain ⟨u', eu, _, hu2, _⟩ := R10.rd.obj
          exact keep _ _ e (ne_of eu hRg10 (hu2 _)) (ne_of eu hp10 (hu2 _))
        · exact (t1.trans t18).free (t9.free hb)
        · exact (t1.trans t18).free hc
    · rintro σ J1 ⟨v7, v8, v9, v10, v11, v12, rs, rfl, t1, hRg1, rl, rok, hIt1⟩
      obtain ⟨dg', gr, gst, gxs, gA, gS, gB, hg6, hr6, _, hgl, _⟩ := G.ex
      -- handed.clear()
      have hHd1 := t1 _ _ hHd6
      refine ⟨_, rfl, .inl ⟨rfl, _, SqL.of hHd1⟩, Hd, _, rfl, rfl, hHd1, ?_⟩
      have kp2 : ∀ b o, J1 b = some o → b ≠ Hd → (upd J1 Hd (.lst [])) b = some o := fun b o e hb => by rw [upd_ne hb]; exact e
      have hd2 : (upd J1 Hd (.lst [])) Hd = some (.lst []) := upd_same
      generalize (upd J1 Hd (.lst [])) = J2 at kp2 hd2
      have rok2 : ∀ b, b ∈ rs → RowOk P w K H6 J2 Rg ms b := fun b hb => (rok b hb).keep hHd1 (.inr ⟨_, hHd6⟩) kp2
      have RgHd : Rg ≠ Hd := fun z => by rw [z, hHd6] at hRg; cases hRg
      have hRg2 := kp2 _ _ hRg1 RgHd
      have hg2 := kp2 _ _ (t1 _ _ hg6) (ne_of (t1 _ _ hg6) hHd1 fun z => nomatch z)
      obtain ⟨ys, hr2, hyl⟩ : ∃ ys : List V, J2 gr = some (.lst ys) ∧ ys.length ≤ 200 := by
        by_cases e : gr = Hd
        · exact ⟨[], by rw [e]; exact hd2, by decide⟩
        · exact ⟨gxs, kp2 _ _ (t1 _ _ hr6) e, hgl⟩
      -- group.told().append(0)
      refine ⟨_, rfl, g, dg', _, rfl, hg2, rfl, n, g, dg', gr, _, gst, ys, rfl, hg2, hr2, fun J3 l t3 hl nl => ?_⟩
      refine ⟨.inl ⟨rfl, _, SqL.of hl⟩, l, _, _, rfl, rfl, hl, by rw [sizeLine_eq]; omega, ?_⟩
      have t4 : Same J2 (upd J3 l (.lst (ys ++ [V.int 0]))) := fun b o e => by
        rw [upd_ne (ne_of_none e nl)]
        exact t3 _ _ e
      generalize (upd J3 l (.lst (ys ++ [V.int 0]))) = J4 at t4
      have rlen : rs.length ≤ 64 := by rw [rl, List.length_map]; exact clen
      refine ⟨_, rfl, Rg, rfl, ⟨_, SqL.of (t4 _ _ hRg2)⟩, fun D hD => lc_list (K := K) (a := Rg) (xs := rs.map V.ref) (fun i H5 => Same J4 H5 ∧ H5 D = some (.lst ((List.replicate i true).map V.bl))) ⟨same_upd hD, upd_same⟩ (fun i H5 _ ⟨e, _⟩ => SqL.of (e _ _ (t4 _ _ hRg2))) ?_ ?_⟩
      · rintro i y J5 hi ⟨sm, hD5⟩
        obtain ⟨b, hb, rfl⟩ := map_get hi
        have hil := (List.getElem?_eq_some_iff.mp hb).1
        obtain ⟨kd, A, t0, kvs, es, c, zs, e1, e2, e3, e4, e5, pm, pw, _⟩ := ((rok2 b (List.mem_of_getElem? hb)).same (t4.trans sm)).ex
        refine ⟨rfl, _, rfl, b, _, _, .ref A.x, rfl, rfl, SqL.of e1, rfl, A.x, A.dx, _, rfl, e2, rfl, kd, n, A, ms, t0, kvs, es, rfl, e2, e3, e4, fun p zs' J6 t6 np hp pm' pw' => ?_⟩
        have ezz : zs' = zs := same_sort (pm'.trans pm.symm) pw' pw
        subst ezz
        have zth : ∀ z, z ∈ zs' → ThAt J6 z.1 z.2 := fun z hz => by
          obtain ⟨x, hx, rfl⟩ := List.mem_map.mp (pm.mem_iff.mp hz)
          exact (e3.rd.th x hx).tups (.same t6)
        refine ⟨_, rfl, b, _, _, .ref c, rfl, rfl, SqL.of (t6 _ _ e1), rfl, .list ((zs'.map (·.2)).map thD), .list ((zs'.map (·.2)).map thD), .lst (SqL.of hp) (dpAll_th zth), .lst (SqL.of (t6 _ _ e5)) (dpAll_th zth), shaped_ths _, shaped_ths _, ?_⟩
        have ev : PyData.eqv (.list ((zs'.map (·.2)).map thD)) (.list ((zs'.map (·.2)).map thD)) = true := by
          rw [PyData.eqv]
          exact eqvAll_th _
        rw [ev]
        refine ⟨_, t6 _ _ hD5, by rw [List.length_map, List.length_replicate, sizeLine_eq]; omega, fun b' o e => ?_, ?_⟩
        · rw [upd_ne (ne_of_none e hD)]
          exact t6 _ _ (sm _ _ e)
        · rw [upd_same, List.replicate_succ', List.map_append]
          rfl
      · rintro J5 ⟨sm, hD5⟩
        refine ⟨D, _, rfl, SqL.of hD5, ?_⟩
        have e : (List.replicate (rs.map V.ref).length true).all id = true := List.all_eq_true.mpr fun b hb => (List.mem_replicate.mp hb).2
        rw [e]
        exact k J5
end
end K43
/-! the end: the head, the facts, the row's theorem. -/
namespace K43
open PySem PySem.Spec PyProof.Rows L2
abbrev R : PySem.W.OpenRow := PySem.W.OpenLaw.row PySem.Challenge.rw_turnbase_k43_rings_closed
abbrev hk : PySem.W.Hook := He.hookD 5 fa fn
def ob (s : PySem.W.SharedT) : He.AlD := He.obsDG 5 fa fn (HandSHeadRun.getT s)
theorem ob_eq (s : PySem.W.SharedT) : ob s = hk.obs s.abs := He.obsDG_eq (HandSHeadRun.getT_eq s)
theorem run (w : World) : HandSHeadRun.RunEq R (PySem.W.view R.prog [53]) hk ob 6000 lo w := by
  intro os
  kernel_rfl
theorem facts {P : Program} {w : World} {K : PySem.W.Frag} {h : Heap} {mg : Str → Option Value} {f : Addr} (X : K.In h) (G : h.Ns mainGlobals mg) (hfa : mg ("law" : Str) = some (.ref f)) (c : He.SaysD fa fn K) :
    ∃ fd : FuncData, (∀ (s : Shared) (v : Value), BindsTo s fd ⟨[v], []⟩ [("_law_script", v)]) ∧ ∀ base : Heap, K.In base → base.Ns mainGlobals mg → FnOk P w K mg base CX0 8 f fd ["_law_script"] (spLaw K) := by
  have T : Tx K mg := ⟨c, fun x h => He.glo_ok X G h, fun x h => He.free_ok X G h, fun x i h => He.int_ok X G h⟩
  obtain ⟨fd, F⟩ := T.d_Law
  have e := hfa.symm.trans T.g_law
  cases e
  have b := FunD.bindsA (ps := ["_law_script"]) F fun _ _ _ _ _ _ us hl => match us, hl with | [_], _ => rfl
  exact ⟨fd, fun s v => b s [v] rfl, fun base _ _ => law_ok T F⟩
end K43
open PySem PySem.W PySem.Calls PyProof.Rows
theorem PySem.Challenge.cw_turnbase_k43_rings_closed_holds : PySem.Challenge.rw_turnbase_k43_rings_closed.Holds := by
  w_on; o_law
  refine HandSHeadRun.head_any (r := OpenLaw.row PySem.Challenge.rw_turnbase_k43_rings_closed) (q := view (OpenLaw.row PySem.Challenge.rw_turnbase_k43_rings_closed).prog [53]) (H := K43.hk) (ob := K43.ob) (M := 6000) (loose := K43.lo) (d := HandSHeadRun.topDef (OpenLaw.row PySem.Challenge.rw_turnbase_k43_rings_closed).prog 53) (kwd := []) K43.ob_eq
    (by kernel_rfl) (fun s => by kernel_rfl) K43.run (by kernel_rfl) (by kernel_rfl) (by kernel_rfl) (by rfl) (by first | assumption | decide +kernel) (by decide +kernel) ⟨rfl, rfl, rfl, rfl, rfl, by decide +kernel⟩ ?hw ?hc
  case hw => w_witness2
  case hc =>
    refine L2.walk_ofE (l := PySem.Challenge.rw_turnbase_k43_rings_closed) (n := 63) (k := 8) (x := "_law_script") (CX := L2.CX0) rfl (by decide) (by kernel_rfl) ⟨rfl, by decide, by decide⟩ ?F (fun _ _ _ _ z => z)
    intro w mg fa h Y G hmg0
    obtain ⟨K, KX, c⟩ := Y
    have hmg : mg ("law" : PySem.Str) = some (.ref fa) := by
      have e : (HandSHeadRun.topDef (OpenLaw.row PySem.Challenge.rw_turnbase_k43_rings_closed).prog 53).name = ("law" : PySem.Str) := by kernel_rfl
      rw [← e]
      exact hmg0
    obtain ⟨fd, hb, hF⟩ := K43.facts (P := (PySem.Challenge.rw_turnbase_k43_rings_closed).prog) (w := w) KX G hmg c
    exact ⟨K, fd, K43.spLaw K, KX, hb, fun H a ns hl _ hS => ⟨a, ns, rfl, hl, hS, fun _ => rfl⟩, hF⟩
