import PyProof.Rows.All
import Wide.All
import OpenK.AllK
import Wide.FinOn
import HandS.ForMost
import HandS.Evl
import HandS.IsInst
import HandS.Deep
import HandS.SortRule
import HandS.TupLen
import HandS.Small
import HandS.DictComp
import HandS.Defaults
import HandS.Conv
import HandS.Style
import PySem.Challenge.RW_leastlog_k63_whole_fewest_keeps
set_option Elab.async false
set_option linter.all false
set_option maxRecDepth 100000
set_option maxHeartbeats 4000000
/-! Flows along edges (start, end, bound), cuts, what one more unit reaches. Plain Lean. -/
namespace LK

abbrev Edge := Int × Int × Int

/-- the sum over the edges of flow times the fall of ph along the edge -/
def sumF : List Edge → List Int → (Int → Int) → Int
  | e :: E, f :: F, ph => f * (ph e.1 - ph e.2.1) + sumF E F ph
  | _, _, _ => 0

theorem sumF_zero : ∀ (E : List Edge) (n : Nat) (ph : Int → Int), sumF E (List.replicate n 0) ph = 0
  | [], _, _ => by simp [sumF]
  | e :: E, 0, ph => by simp [sumF]
  | e :: E, n + 1, ph => by
    rw [List.replicate_succ, sumF, sumF_zero E n ph]
    simp

theorem sumF_set : ∀ (E : List Edge) (F : List Int) (ph : Int → Int) (i : Nat) (e : Edge) (f d : Int), E[i]? = some e → F[i]? = some f →
    sumF E (F.set i (f + d)) ph = sumF E F ph + d * (ph e.1 - ph e.2.1)
  | [], F, ph, i, e, f, d, h1, h2 => by simp at h1
  | e0 :: E, [], ph, i, e, f, d, h1, h2 => by simp at h2
  | e0 :: E, f0 :: F, ph, 0, e, f, d, h1, h2 => by
    simp at h1 h2
    subst h1 h2
    simp only [List.set_cons_zero, sumF]
    grind
  | e0 :: E, f0 :: F, ph, i + 1, e, f, d, h1, h2 => by
    simp at h1 h2
    simp only [List.set_cons_succ, sumF]
    rw [sumF_set E F ph i e f d h1 h2]
    omega

structure Flow (E : List Edge) (F : List Int) (val : Int) : Prop where
  len : F.length = E.length
  bd : ∀ (i : Nat) (e : Edge) (f : Int), E[i]? = some e → F[i]? = some f → 0 ≤ f ∧ f ≤ e.2.2
  bal : ∀ ph : Int → Int, sumF E F ph = val * (ph 0 - ph 1)

/-- the sum of the bounds of the edges that lead out of R -/
def outCap (R : Int → Bool) : List Edge → Int
  | [] => 0
  | e :: E => (if R e.1 && !R e.2.1 then e.2.2 else 0) + outCap R E

theorem outCap_append (R : Int → Bool) : ∀ A B : List Edge, outCap R (A ++ B) = outCap R A + outCap R B
  | [], B => by simp [outCap]
  | e :: A, B => by simp only [List.cons_append, outCap, outCap_append R A B]; omega

def ind (R : Int → Bool) : Int → Int := fun n => if R n then 1 else 0

theorem term_le {R : Int → Bool} {e : Edge} {f : Int} (h0 : 0 ≤ f) (h1 : f ≤ e.2.2) :
    f * (ind R e.1 - ind R e.2.1) ≤ (if R e.1 && !R e.2.1 then e.2.2 else 0) := by
  unfold ind
  cases R e.1 <;> cases R e.2.1 <;> simp <;> omega

/-- weak duality, and that equality holds only where the cut is full -/
theorem dual : ∀ (E : List Edge) (F : List Int) (R : Int → Bool), F.length = E.length →
    (∀ (i : Nat) (e : Edge) (f : Int), E[i]? = some e → F[i]? = some f → 0 ≤ f ∧ f ≤ e.2.2) →
    sumF E F (ind R) ≤ outCap R E
  | [], F, R, _, _ => by simp [sumF, outCap]
  | e :: E, [], R, h, _ => by simp at h
  | e :: E, f :: F, R, h, hb => by
    have h0 := hb 0 e f rfl rfl
    have ih := dual E F R (by simpa using h) (fun i e' f' a b => hb (i + 1) e' f' (by simpa using a) (by simpa using b))
    have ht := term_le (R := R) h0.1 h0.2
    simp only [sumF, outCap]
    omega

def Full (R : Int → Bool) (E : List Edge) (F : List Int) : Prop :=
  ∀ (i : Nat) (e : Edge) (f : Int), E[i]? = some e → F[i]? = some f → (R e.1 = true → R e.2.1 = false → f = e.2.2) ∧ (R e.1 = false → R e.2.1 = true → f = 0)

theorem dual_full : ∀ (E : List Edge) (F : List Int) (R : Int → Bool), F.length = E.length → Full R E F → sumF E F (ind R) = outCap R E
  | [], F, R, _, _ => by simp [sumF, outCap]
  | e :: E, [], R, h, _ => by simp at h
  | e :: E, f :: F, R, h, hb => by
    have h0 := hb 0 e f rfl rfl
    have ih := dual_full E F R (by simpa using h) (fun i e' f' a b => hb (i + 1) e' f' (by simpa using a) (by simpa using b))
    simp only [sumF, outCap, ih]
    congr 1
    revert h0
    unfold ind
    cases R e.1 <;> cases R e.2.1 <;> simp

theorem full_of_dual : ∀ (E : List Edge) (F : List Int) (R : Int → Bool), F.length = E.length →
    (∀ (i : Nat) (e : Edge) (f : Int), E[i]? = some e → F[i]? = some f → 0 ≤ f ∧ f ≤ e.2.2) →
    sumF E F (ind R) = outCap R E → Full R E F
  | [], F, R, _, _, _ => by intro i e f h; simp at h
  | e :: E, [], R, h, _, _ => by simp at h
  | e :: E, f :: F, R, h, hb, heq => by
    have h0 := hb 0 e f rfl rfl
    have hb' : ∀ (i : Nat) (e : Edge) (f : Int), E[i]? = some e → F[i]? = some f → 0 ≤ f ∧ f ≤ e.2.2 :=
      fun i e' f' a b => hb (i + 1) e' f' (by simpa using a) (by simpa using b)
    have hl : F.length = E.length := by simpa using h
    have d := dual E F R hl hb'
    have ht := term_le (R := R) h0.1 h0.2
    simp only [sumF, outCap] at heq
    have e2 : sumF E F (ind R) = outCap R E := by omega
    have e1 : f * (ind R e.1 - ind R e.2.1) = (if R e.1 && !R e.2.1 then e.2.2 else 0) := by omega
    have ih := full_of_dual E F R hl hb' e2
    intro i e' f' a b
    cases i with
    | zero =>
      simp at a b
      subst a b
      revert e1
      unfold ind
      cases R e.1 <;> cases R e.2.1 <;> simp
    | succ i => exact ih i e' f' (by simpa using a) (by simpa using b)

theorem Flow.weak {E : List Edge} {F : List Int} {val : Int} (h : Flow E F val) {R : Int → Bool} (r0 : R 0 = true) (r1 : R 1 = false) : val ≤ outCap R E := by
  have d := dual E F R h.len h.bd
  rw [h.bal] at d
  simp [ind, r0, r1] at d
  exact d
theorem Flow.full_eq {E : List Edge} {F : List Int} {val : Int} (h : Flow E F val) {R : Int → Bool} (r0 : R 0 = true) (r1 : R 1 = false) (hf : Full R E F) : val = outCap R E := by
  have d := dual_full E F R h.len hf
  rw [h.bal] at d
  simp [ind, r0, r1] at d
  exact d
theorem Flow.full_of {E : List Edge} {F : List Int} {val : Int} (h : Flow E F val) {R : Int → Bool} (r0 : R 0 = true) (r1 : R 1 = false) (he : val = outCap R E) : Full R E F := by
  refine full_of_dual E F R h.len h.bd ?_
  rw [h.bal]
  simp [ind, r0, r1]
  exact he

theorem outCap_ge {R : Int → Bool} : ∀ {E : List Edge}, (∀ e ∈ E, 0 ≤ e.2.2) → ∀ e ∈ E, R e.1 = true → R e.2.1 = false → e.2.2 ≤ outCap R E
  | [], _, e, h, _, _ => by simp at h
  | e0 :: E, hc, e, h, r1, r2 => by
    have hnn : ∀ E : List Edge, (∀ e ∈ E, 0 ≤ e.2.2) → 0 ≤ outCap R E := by
      intro E
      induction E with
      | nil => intro _; simp [outCap]
      | cons a E ih =>
        intro hc
        have := ih (fun e he => hc e (List.mem_cons_of_mem _ he))
        have := hc a (List.mem_cons_self ..)
        simp only [outCap]
        split <;> omega
    have n1 := hnn E (fun e he => hc e (List.mem_cons_of_mem _ he))
    have n0 := hc e0 (List.mem_cons_self ..)
    rcases List.mem_cons.mp h with rfl | h
    · simp only [outCap, r1, r2]
      simp
      omega
    · have := outCap_ge (fun e he => hc e (List.mem_cons_of_mem _ he)) e h r1 r2
      simp only [outCap]
      split <;> omega

/-! ### edges at a node, the next node -/
/-- the numbers of the edges at a node, in the sequence of the edges -/
def adjFrom : Nat → List Edge → Int → List Nat
  | _, [], _ => []
  | n, e :: E, x => (if e.1 = x then [n] else []) ++ (if e.2.1 = x then [n] else []) ++ adjFrom (n + 1) E x
def adj (E : List Edge) (x : Int) : List Nat := adjFrom 0 E x
theorem adjFrom_append : ∀ (A B : List Edge) (n : Nat) (x : Int), adjFrom n (A ++ B) x = adjFrom n A x ++ adjFrom (n + A.length) B x
  | [], B, n, x => by simp [adjFrom]
  | e :: A, B, n, x => by
    simp only [List.cons_append, adjFrom, adjFrom_append A B (n + 1) x, List.length_cons, List.append_assoc]
    rw [show n + 1 + A.length = n + (A.length + 1) by omega]
theorem adj_snoc (E : List Edge) (e : Edge) (x : Int) : adj (E ++ [e]) x = adj E x ++ ((if e.1 = x then [E.length] else []) ++ (if e.2.1 = x then [E.length] else [])) := by
  unfold adj
  rw [adjFrom_append]
  simp [adjFrom]
theorem mem_adjFrom : ∀ (E : List Edge) (n : Nat) (x : Int) (i : Nat), i ∈ adjFrom n E x ↔ ∃ j e, i = n + j ∧ E[j]? = some e ∧ (e.1 = x ∨ e.2.1 = x)
  | [], n, x, i => by simp [adjFrom]
  | e :: E, n, x, i => by
    simp only [adjFrom, List.mem_append, mem_adjFrom E (n + 1) x i]
    constructor
    · rintro ((h | h) | ⟨j, e', rfl, h1, h2⟩)
      · split at h
        · simp at h
          exact ⟨0, e, by omega, rfl, Or.inl (by assumption)⟩
        · simp at h
      · split at h
        · simp at h
          exact ⟨0, e, by omega, rfl, Or.inr (by assumption)⟩
        · simp at h
      · exact ⟨j + 1, e', by omega, by simpa using h1, h2⟩
    · rintro ⟨j, e', rfl, h1, h2⟩
      cases j with
      | zero =>
        simp at h1
        subst h1
        rcases h2 with h2 | h2
        · left; left; simp [h2]
        · left; right; simp [h2]
      | succ j => exact Or.inr ⟨j, e', by omega, by simpa using h1, h2⟩
theorem mem_adj {E : List Edge} {x : Int} {i : Nat} : i ∈ adj E x ↔ ∃ e, E[i]? = some e ∧ (e.1 = x ∨ e.2.1 = x) := by
  unfold adj
  rw [mem_adjFrom]
  constructor
  · rintro ⟨j, e, rfl, h1, h2⟩
    exact ⟨e, by simpa using h1, h2⟩
  · rintro ⟨e, h1, h2⟩
    exact ⟨i, e, by omega, h1, h2⟩

/-- the node to which one more unit can go along the edge i -/
def nextOf (e : Edge) (f : Int) (x : Int) : Option Int :=
  if x = e.1 then (if f < e.2.2 then some e.2.1 else none) else if 0 < f then some e.1 else none
def next (E : List Edge) (F : List Int) (x : Int) (i : Nat) : Option Int :=
  match E[i]?, F[i]? with
  | some e, some f => nextOf e f x
  | _, _ => none

/-- closed: nothing more is reached -/
def Closed (R : Int → Bool) (E : List Edge) (F : List Int) : Prop := ∀ x, R x = true → ∀ i ∈ adj E x, ∀ y, next E F x i = some y → R y = true
theorem Closed.full {R : Int → Bool} {E : List Edge} {F : List Int} {val : Int} (h : Closed R E F) (fl : Flow E F val) : Full R E F := by
  intro i e f he hf
  have hb := fl.bd i e f he hf
  refine ⟨fun r1 r2 => ?_, fun r1 r2 => ?_⟩
  · have hm : i ∈ adj E e.1 := mem_adj.mpr ⟨e, he, Or.inl rfl⟩
    by_cases hlt : f < e.2.2
    · have := h e.1 r1 i hm e.2.1 (by simp [next, he, hf, nextOf, hlt])
      rw [r2] at this
      cases this
    · omega
  · have hm : i ∈ adj E e.2.1 := mem_adj.mpr ⟨e, he, Or.inr rfl⟩
    have hne : e.2.1 ≠ e.1 := fun q => by rw [q, r1] at r2; cases r2
    by_cases hlt : 0 < f
    · have := h e.2.1 r2 i hm e.1 (by simp [next, he, hf, nextOf, hlt, hne])
      rw [r1] at this
      cases this
    · omega
theorem Full.closed {R : Int → Bool} {E : List Edge} {F : List Int} (h : Full R E F) : Closed R E F := by
  intro x hx i hi y hy
  obtain ⟨e, he, hxe⟩ := mem_adj.mp hi
  cases hf : F[i]? with
  | none => simp [next, he, hf] at hy
  | some f =>
    simp only [next, he, hf, nextOf] at hy
    have hh := h i e f he hf
    by_cases q : x = e.1
    · rw [if_pos q] at hy
      split at hy
      · cases hy
        cases hR : R e.2.1 with
        | true => rfl
        | false =>
          have := hh.1 (q ▸ hx) hR
          omega
      · cases hy
    · rw [if_neg q] at hy
      have q2 : e.2.1 = x := by
        rcases hxe with z | z
        · exact absurd z.symm q
        · exact z
      split at hy
      · cases hy
        cases hR : R e.1 with
        | true => rfl
        | false =>
          have := hh.2 hR (q2 ▸ hx)
          omega
      · cases hy

/-! ### what was found -/
abbrev FK := Int × Option (Int × Nat)
structure Found (E : List Edge) (F : List Int) (ks : List FK) : Prop where
  head : ks[0]? = some (0, none)
  pred : ∀ (j : Nat) (x : Int) (o : Option (Int × Nat)), ks[j]? = some (x, o) → 0 < j → ∃ (y : Int) (i k : Nat) (p : Option (Int × Nat)), o = some (y, i) ∧ k < j ∧ ks[k]? = some (y, p) ∧ i ∈ adj E y ∧ next E F y i = some x
  nodup : (ks.map (·.1)).Nodup

def inKs (ks : List FK) (x : Int) : Bool := decide (x ∈ ks.map (·.1))
theorem inKs_iff {ks : List FK} {x : Int} : inKs ks x = true ↔ ∃ (j : Nat) (o : Option (Int × Nat)), ks[j]? = some (x, o) := by
  unfold inKs
  simp only [decide_eq_true_eq, List.mem_map]
  constructor
  · rintro ⟨⟨a, o⟩, h, rfl⟩
    obtain ⟨j, hj⟩ := List.getElem?_of_mem h
    exact ⟨j, o, hj⟩
  · rintro ⟨j, o, h⟩
    exact ⟨(x, o), List.mem_of_getElem? h, rfl⟩
theorem Found.in0 {E : List Edge} {F : List Int} {ks : List FK} (h : Found E F ks) : inKs ks 0 = true := inKs_iff.mpr ⟨0, none, h.head⟩
theorem Found.least {E : List Edge} {F : List Int} {ks : List FK} (h : Found E F ks) {R : Int → Bool} (r0 : R 0 = true) (hc : Closed R E F) : ∀ x, inKs ks x = true → R x = true := by
  have key : ∀ n (j : Nat) x o, j < n → ks[j]? = some (x, o) → R x = true := by
    intro n
    induction n with
    | zero => intro j x o hj; omega
    | succ n ih =>
      intro j x o hj hk
      by_cases j0 : j = 0
      · subst j0
        rw [h.head] at hk
        cases hk
        exact r0
      · obtain ⟨y, i, k, p, rfl, hkj, hy, hi, hn⟩ := h.pred j x o hk (by omega)
        exact hc y (ih k y p (by omega) hy) i hi x hn
  intro x hx
  obtain ⟨j, o, hj⟩ := inKs_iff.mp hx
  exact key (j + 1) j x o (by omega) hj

theorem Found.ix {E : List Edge} {F : List Int} {ks : List FK} (h : Found E F ks) {j k : Nat} {x : Int} {o p : Option (Int × Nat)} (a : ks[j]? = some (x, o)) (b : ks[k]? = some (x, p)) : j = k := by
  have a' : (ks.map (·.1))[j]? = some x := by simp [a]
  have b' : (ks.map (·.1))[k]? = some x := by simp [b]
  obtain ⟨h1, e1⟩ := List.getElem?_eq_some_iff.mp a'
  obtain ⟨h2, e2⟩ := List.getElem?_eq_some_iff.mp b'
  exact (List.getElem_inj h.nodup).mp (e1.trans e2.symm)

/-- the endpoints of an edge along which one goes -/
theorem next_ends {E : List Edge} {F : List Int} {x y : Int} {i : Nat} (hi : i ∈ adj E y) (hn : next E F y i = some x) :
    ∃ e f, E[i]? = some e ∧ F[i]? = some f ∧ ((e.1 = y ∧ e.2.1 = x ∧ f < e.2.2) ∨ (e.1 ≠ y ∧ e.2.1 = y ∧ e.1 = x ∧ 0 < f)) := by
  obtain ⟨e, he, hxe⟩ := mem_adj.mp hi
  cases hf : F[i]? with
  | none => simp [next, he, hf] at hn
  | some f =>
    refine ⟨e, f, he, rfl, ?_⟩
    simp only [next, he, hf, nextOf] at hn
    by_cases q : y = e.1
    · rw [if_pos q] at hn
      split at hn
      · cases hn
        exact Or.inl ⟨q.symm, rfl, by assumption⟩
      · cases hn
    · rw [if_neg q] at hn
      split at hn
      · cases hn
        refine Or.inr ⟨fun z => q z.symm, ?_, rfl, by assumption⟩
        rcases hxe with z | z
        · exact absurd z.symm q
        · exact z
      · cases hn

/-- on the way back from the sink: one unit has come to the sink from x -/
structure Part (E : List Edge) (ks : List FK) (val : Int) (F : List Int) (j : Nat) (x : Int) : Prop where
  len : F.length = E.length
  bd : ∀ (i : Nat) (e : Edge) (f : Int), E[i]? = some e → F[i]? = some f → 0 ≤ f ∧ f ≤ e.2.2
  bal : ∀ ph : Int → Int, sumF E F ph = val * (ph 0 - ph 1) + (ph x - ph 1)
  at_ : ∃ o, ks[j]? = some (x, o)
  left : ∀ (k : Nat) (z y : Int) (i : Nat), k ≤ j → ks[k]? = some (z, some (y, i)) → next E F y i = some z

theorem Part.start {E : List Edge} {F : List Int} {ks : List FK} {val : Int} (h : Found E F ks) (fl : Flow E F val) {j : Nat} {o : Option (Int × Nat)} (hj : ks[j]? = some (1, o)) : Part E ks val F j 1 where
  len := fl.len
  bd := fl.bd
  bal := fun ph => by rw [fl.bal]; omega
  at_ := ⟨o, hj⟩
  left := fun k z y i _ hk => by
    by_cases k0 : k = 0
    · subst k0
      rw [h.head] at hk
      cases hk
    · obtain ⟨y', i', _, _, e, _, _, _, hn⟩ := h.pred k z _ hk (by omega)
      cases e
      exact hn
/-- the unit that is let go along an edge -/
def pushOf (e : Edge) (f y : Int) : Int := f + (if e.1 = y then 1 else -1)
theorem Part.step {E : List Edge} {F0 F : List Int} {ks : List FK} {val : Int} (h : Found E F0 ks) {j : Nat} {x : Int} (pt : Part E ks val F j x) (hx : x ≠ 0) {y : Int} {i : Nat} (hj : ks[j]? = some (x, some (y, i))) :
    ∃ k e f, k < j ∧ E[i]? = some e ∧ F[i]? = some f ∧ Part E ks val (F.set i (pushOf e f y)) k y := by
  have j0 : 0 < j := by
    rcases Nat.eq_zero_or_pos j with q | q
    · subst q
      rw [h.head] at hj
      cases hj
    · exact q
  obtain ⟨y', i', k, p, e0, hkj, hy, hi, _⟩ := h.pred j x _ hj j0
  cases e0
  have hn := pt.left j x y i (Nat.le_refl _) hj
  obtain ⟨e, f, he, hf, hc⟩ := next_ends hi hn
  refine ⟨k, e, f, hkj, he, hf, ?_⟩
  have hbd := pt.bd i e f he hf
  have hlen : i < F.length := (List.getElem?_eq_some_iff.mp hf).1
  -- any other edge on the rest of the way is another one
  have other : ∀ (k' : Nat) (z y' : Int) (i' : Nat), k' ≤ k → ks[k']? = some (z, some (y', i')) → i' ≠ i := by
    rintro k' z y' i' hk' hz rfl
    have k0 : 0 < k' := by
      rcases Nat.eq_zero_or_pos k' with q | q
      · subst q
        rw [h.head] at hz
        cases hz
      · exact q
    obtain ⟨y2, i2, k2, p2, e2, hk2, hy2, hi2, hn2⟩ := h.pred k' z _ hz k0
    cases e2
    obtain ⟨e', f', he', _, hc'⟩ := next_ends hi2 hn2
    rw [he] at he'
    cases he'
    -- x is one of z, y'
    have hxz : x = z ∨ x = y' := by
      rcases hc with ⟨a, b, _⟩ | ⟨a, b, c, _⟩ <;> rcases hc' with ⟨a', b', _⟩ | ⟨a', b', c', _⟩
      · left; rw [← b, b']
      · right; rw [← b, b']
      · right; rw [← c, a']
      · left; rw [← c, c']
    rcases hxz with q | q
    · subst q
      have := h.ix hj hz
      omega
    · subst q
      have := h.ix hj hy2
      omega
  refine ⟨by rw [List.length_set]; exact pt.len, ?_, ?_, ⟨p, hy⟩, ?_⟩
  · intro i2 e2 f2 h1 h2
    by_cases q : i2 = i
    · subst q
      rw [he] at h1
      cases h1
      rw [List.getElem?_set_self hlen] at h2
      cases h2
      unfold pushOf
      rcases hc with ⟨a, b, c⟩ | ⟨a, b, c, d⟩
      · rw [if_pos a]; omega
      · rw [if_neg a]; omega
    · rw [List.getElem?_set_ne (Ne.symm q)] at h2
      exact pt.bd i2 e2 f2 h1 h2
  · intro ph
    unfold pushOf
    rw [sumF_set E F ph i e f _ he hf, pt.bal]
    rcases hc with ⟨a, b, c⟩ | ⟨a, b, c, d⟩
    · rw [if_pos a, a, b]; omega
    · rw [if_neg a, b, c]; omega
  · intro k' z y' i' hk' hz
    have hne := other k' z y' i' hk' hz
    have := pt.left k' z y' i' (by omega) hz
    unfold next at this ⊢
    rw [List.getElem?_set_ne (Ne.symm hne)]
    exact this
theorem Part.done {E : List Edge} {F : List Int} {ks : List FK} {val : Int} {j : Nat} (pt : Part E ks val F j 0) : Flow E F (val + 1) where
  len := pt.len
  bd := pt.bd
  bal := fun ph => by
    rw [pt.bal, Int.add_mul]
    omega
theorem flow_zero {E : List Edge} (h : ∀ e ∈ E, 0 ≤ e.2.2) : Flow E (List.replicate E.length 0) 0 where
  len := by simp
  bd := fun i e f he hf => by
    rw [List.getElem?_replicate] at hf
    split at hf
    · cases hf
      exact ⟨Int.le_refl _, h e (List.mem_of_getElem? he)⟩
    · cases hf
  bal := fun ph => by rw [sumF_zero]; omega
end LK

/-! Stretches as plain data, loss, the network of a stretch, least keeps by a least cut. -/
namespace LK

structure Sys where
  vals : List Int
  pl : Int → Nat
  ops : Int → Option (List Int)
  stops : List Nat
  asked : List (List Int)
  need : Int → Int

abbrev Pt := Int × Nat

namespace Sys
def here (S : Sys) (v : Int) (s : Nat) : Bool := decide (S.pl v < S.stops.getD s 0)
def live (S : Sys) (v : Int) (s : Nat) : Bool := S.here v s && decide (S.need v > ((S.stops.getD s 0 : Nat) : Int))
def present (S : Sys) (s : Nat) : List Int := S.vals.filter fun v => S.here v s
def points (S : Sys) : List Pt := (List.range S.stops.length).flatMap fun s => (S.present s).map fun v => (v, s)
def asks (S : Sys) (s : Nat) : List Int := S.asked.getD s []
def idx (S : Sys) (p : Pt) : Int := (S.points.idxOf p : Nat)
def sp (S : Sys) (p : Pt) : Int := 2 + 2 * S.idx p
def lo (S : Sys) (p : Pt) : Int := 3 + 2 * S.idx p
def most (S : Sys) : Int := (S.points.length : Int) + 1
def frontAt (S : Sys) (p : Pt) : List Edge := match S.ops p.1 with
  | none => [((0 : Int), S.sp p, S.most)]
  | some l => l.map fun o => (S.lo (o, p.2), S.sp p, S.most)
def backAt (S : Sys) (p : Pt) : List Edge := match p.2 with
  | 0 => []
  | s + 1 => if (p.1, s) ∈ S.points then [(S.lo (p.1, s), S.lo p, S.most)] else []
def edgesAt (S : Sys) (p : Pt) : List Edge :=
  S.frontAt p ++
  ((if S.live p.1 p.2 then [] else [(S.sp p, S.lo p, (1 : Int))]) ++
  (S.backAt p ++
  (if p.1 ∈ S.asks p.2 then [(S.lo p, (1 : Int), S.most)] else [])))
def edges (S : Sys) : List Edge := S.points.flatMap S.edgesAt

structure Wf (S : Sys) : Prop where
  nodup : S.vals.Nodup
  alen : S.asked.length = S.stops.length
  inc : ∀ i j, i < j → j < S.stops.length → S.stops.getD i 0 < S.stops.getD j 0
  ops : ∀ v ∈ S.vals, ∀ l, S.ops v = some l → ∀ o ∈ l, o ∈ S.vals ∧ S.pl o < S.pl v
  asks : ∀ s, s < S.stops.length → ∀ v ∈ S.asks s, v ∈ S.vals ∧ S.here v s = true

theorem mem_points {S : Sys} {v : Int} {s : Nat} : (v, s) ∈ S.points ↔ v ∈ S.vals ∧ s < S.stops.length ∧ S.here v s = true := by
  unfold points present
  simp only [List.mem_flatMap, List.mem_range, List.mem_map, List.mem_filter, Prod.mk.injEq]
  constructor
  · rintro ⟨s', h, v', ⟨h1, h2⟩, rfl, rfl⟩
    exact ⟨h1, h, h2⟩
  · rintro ⟨h1, h2, h3⟩
    exact ⟨s, h2, v, ⟨h1, h3⟩, rfl, rfl⟩
theorem nodup_filter {α : Type} {p : α → Bool} {l : List α} (h : l.Nodup) : (l.filter p).Nodup := List.Pairwise.sublist List.filter_sublist h
theorem nodup_points {S : Sys} (w : S.Wf) : S.points.Nodup := by
  unfold points
  unfold List.Nodup
  rw [List.pairwise_flatMap]
  constructor
  · intro s _
    have : (S.present s).Nodup := nodup_filter w.nodup
    rw [List.pairwise_map]
    exact List.Pairwise.imp (fun h q => h (by injection q)) this
  · refine List.Pairwise.imp ?_ (List.nodup_range (n := S.stops.length))
    intro a b hab x hx y hy
    simp only [List.mem_map] at hx hy
    obtain ⟨_, _, rfl⟩ := hx
    obtain ⟨_, _, rfl⟩ := hy
    intro q
    injection q with _ q
    exact hab q
theorem idx_inj {S : Sys} {p q : Pt} (hp : p ∈ S.points) (h : S.idx p = S.idx q) : p = q := by
  unfold idx at h
  have h' : S.points.idxOf p = S.points.idxOf q := by omega
  have a := List.idxOf_lt_length_of_mem hp
  have e1 := List.getElem_idxOf a
  have e2 : S.points.idxOf q < S.points.length := h' ▸ a
  have e3 := List.getElem_idxOf e2
  rw [← e1, ← e3]
  congr 1
theorem idx_nonneg {S : Sys} (p : Pt) : 0 ≤ S.idx p := by unfold idx; omega
theorem idx_lt {S : Sys} {p : Pt} (hp : p ∈ S.points) : S.idx p < S.points.length := by
  have a := List.idxOf_lt_length_of_mem hp
  unfold idx
  omega

/-- what is lost by keeps -/
inductive Lost (S : Sys) (K : List Pt) : Int → Nat → Prop
  | leaf {v : Int} {s : Nat} : (v, s) ∈ S.points → S.ops v = none → (v, s) ∉ K → S.live v s = false → Lost S K v s
  | op {v : Int} {s : Nat} {l : List Int} {o : Int} : (v, s) ∈ S.points → S.ops v = some l → o ∈ l → Lost S K o s → (v, s) ∉ K → S.live v s = false → Lost S K v s
  | stay {v : Int} {s : Nat} : (v, s + 1) ∈ S.points → Lost S K v s → Lost S K v (s + 1)
def Open (S : Sys) (K : List Pt) (v : Int) (s : Nat) : Prop := S.ops v = none ∨ ∃ l o, S.ops v = some l ∧ o ∈ l ∧ Lost S K o s
theorem Lost.pt {S : Sys} {K : List Pt} {v : Int} {s : Nat} (h : Lost S K v s) : (v, s) ∈ S.points := by
  cases h <;> assumption
theorem Open.gone {S : Sys} {K : List Pt} {v : Int} {s : Nat} (h : Open S K v s) (hp : (v, s) ∈ S.points) (hk : (v, s) ∉ K) (hl : S.live v s = false) : Lost S K v s := by
  rcases h with h | ⟨l, o, h1, h2, h3⟩
  · exact .leaf hp h hk hl
  · exact .op hp h1 h2 h3 hk hl
theorem lost_iff {S : Sys} {K : List Pt} {v : Int} {s : Nat} : Lost S K v s ↔ (v, s) ∈ S.points ∧ ((Open S K v s ∧ (v, s) ∉ K ∧ S.live v s = false) ∨ ∃ s', s = s' + 1 ∧ Lost S K v s') := by
  constructor
  · intro h
    refine ⟨h.pt, ?_⟩
    cases h with
    | leaf a b c d => exact .inl ⟨.inl b, c, d⟩
    | op a b c d e f => exact .inl ⟨.inr ⟨_, _, b, c, d⟩, e, f⟩
    | stay a b => exact .inr ⟨_, rfl, b⟩
  · rintro ⟨hp, ⟨ho, hk, hl⟩ | ⟨s', rfl, h⟩⟩
    · exact ho.gone hp hk hl
    · exact .stay hp h
def Suff (S : Sys) (K : List Pt) : Prop := ∀ s, s < S.stops.length → ∀ v ∈ S.asks s, ¬ Lost S K v s

/-! ### the cut of the nodes that loss reaches -/
open Classical in
noncomputable def RK (S : Sys) (K : List Pt) : Int → Bool := fun n => decide (n = 0 ∨ ∃ v s, (v, s) ∈ S.points ∧ ((n = S.sp (v, s) ∧ Open S K v s) ∨ (n = S.lo (v, s) ∧ Lost S K v s)))
theorem RK_iff {S : Sys} {K : List Pt} {n : Int} : RK S K n = true ↔ (n = 0 ∨ ∃ v s, (v, s) ∈ S.points ∧ ((n = S.sp (v, s) ∧ Open S K v s) ∨ (n = S.lo (v, s) ∧ Lost S K v s))) := by
  unfold RK
  exact @decide_eq_true_iff _ (_)
theorem RK0 {S : Sys} {K : List Pt} : RK S K 0 = true := by simp [RK]
theorem RK1 {S : Sys} {K : List Pt} : RK S K 1 = false := by
  unfold RK
  rw [decide_eq_false_iff_not]
  rintro (h | ⟨v, s, hp, ⟨h, _⟩ | ⟨h, _⟩⟩)
  · omega
  · have := idx_nonneg (S := S) (v, s)
    unfold sp at h
    omega
  · have := idx_nonneg (S := S) (v, s)
    unfold lo at h
    omega
theorem RK_sp {S : Sys} {K : List Pt} {v : Int} {s : Nat} (hp : (v, s) ∈ S.points) : RK S K (S.sp (v, s)) = true ↔ Open S K v s := by
  rw [RK_iff]
  have h0 := idx_nonneg (S := S) (v, s)
  constructor
  · rintro (h | ⟨v', s', hp', ⟨h, ho⟩ | ⟨h, _⟩⟩)
    · unfold sp at h; omega
    · have e : S.idx (v, s) = S.idx (v', s') := by unfold sp at h; omega
      have := idx_inj hp e
      cases this
      exact ho
    · unfold sp lo at h; omega
  · intro h
    exact .inr ⟨v, s, hp, .inl ⟨rfl, h⟩⟩
theorem RK_lo {S : Sys} {K : List Pt} {v : Int} {s : Nat} (hp : (v, s) ∈ S.points) : RK S K (S.lo (v, s)) = true ↔ Lost S K v s := by
  rw [RK_iff]
  have h0 := idx_nonneg (S := S) (v, s)
  constructor
  · rintro (h | ⟨v', s', hp', ⟨h, ho⟩ | ⟨h, ho⟩⟩)
    · unfold lo at h; omega
    · unfold lo sp at h; omega
    · have e : S.idx (v, s) = S.idx (v', s') := by unfold lo at h; omega
      have := idx_inj hp e
      cases this
      exact ho
  · intro h
    exact .inr ⟨v, s, hp, .inr ⟨rfl, h⟩⟩

/-- no great edge leads out -/
structure NoCross (S : Sys) (R : Int → Bool) (v : Int) (s : Nat) : Prop where
  src : S.ops v = none → R 0 = true → R (S.sp (v, s)) = true
  ops : ∀ l, S.ops v = some l → ∀ o ∈ l, R (S.lo (o, s)) = true → R (S.sp (v, s)) = true
  stay : ∀ s', s = s' + 1 → (v, s') ∈ S.points → R (S.lo (v, s')) = true → R (S.lo (v, s)) = true
  snk : v ∈ S.asks s → R (S.lo (v, s)) = true → R 1 = true

def cut (S : Sys) (R : Int → Bool) (p : Pt) : Bool := R (S.sp p) && !R (S.lo p) && !S.live p.1 p.2
theorem outCap_zero {R : Int → Bool} : ∀ {E : List Edge}, (∀ e ∈ E, R e.1 = true → R e.2.1 = true) → outCap R E = 0
  | [], _ => rfl
  | e :: E, h => by
    have h1 := h e (List.mem_cons_self ..)
    have h2 := outCap_zero (E := E) fun e he => h e (List.mem_cons_of_mem _ he)
    simp only [outCap, h2]
    cases q : R e.1 <;> simp
    have := h1 q
    simp [this]
theorem outCap_at {S : Sys} {R : Int → Bool} {v : Int} {s : Nat} (h : NoCross S R v s) : outCap R (S.edgesAt (v, s)) = if S.cut R (v, s) then 1 else 0 := by
  unfold edgesAt
  rw [outCap_append, outCap_append, outCap_append]
  have e1 : outCap R (S.frontAt (v, s)) = 0 := by
    apply outCap_zero
    unfold frontAt
    simp only []
    cases q : S.ops v with
    | none =>
      intro e he
      simp at he
      subst he
      exact h.src q
    | some l =>
      intro e he
      simp only [List.mem_map] at he
      obtain ⟨o, ho, rfl⟩ := he
      exact h.ops l q o ho
  have e3 : outCap R (S.backAt (v, s)) = 0 := by
    apply outCap_zero
    unfold backAt
    cases s with
    | zero => intro e he; simp at he
    | succ s' =>
      intro e he
      simp only at he
      split at he
      · simp at he
        subst he
        exact h.stay s' rfl (by assumption)
      · simp at he
  have e4 : outCap R (if v ∈ S.asks s then [(S.lo (v, s), (1 : Int), S.most)] else []) = 0 := by
    apply outCap_zero
    intro e he
    split at he
    · simp at he
      subst he
      exact h.snk (by assumption)
    · simp at he
  have e2 : outCap R (if S.live v s then [] else [(S.sp (v, s), S.lo (v, s), (1 : Int))]) = if S.cut R (v, s) then 1 else 0 := by
    unfold cut
    cases S.live v s <;> simp [outCap]
  show outCap R (S.frontAt (v, s)) + (outCap R (if S.live v s then [] else [(S.sp (v, s), S.lo (v, s), (1 : Int))]) + (outCap R (S.backAt (v, s)) + outCap R (if v ∈ S.asks s then [(S.lo (v, s), (1 : Int), S.most)] else []))) = _
  rw [e1, e2, e3, e4]
  omega
theorem outCap_pts {S : Sys} {R : Int → Bool} : ∀ L : List Pt, (∀ p ∈ L, NoCross S R p.1 p.2) → outCap R (L.flatMap S.edgesAt) = ((L.filter (S.cut R)).length : Nat)
  | [], _ => rfl
  | (v, s) :: L, h => by
    have ih := outCap_pts L fun p hp => h p (List.mem_cons_of_mem _ hp)
    have h0 := outCap_at (h (v, s) (List.mem_cons_self ..))
    rw [List.flatMap_cons, outCap_append, ih, h0, List.filter_cons]
    split
    · rw [List.length_cons]; omega
    · omega
theorem outCap_edges {S : Sys} {R : Int → Bool} (h : ∀ v s, (v, s) ∈ S.points → NoCross S R v s) : outCap R S.edges = ((S.points.filter (S.cut R)).length : Nat) :=
  outCap_pts S.points fun p hp => h p.1 p.2 hp

theorem sub_len {L K : List Pt} (hL : L.Nodup) (h : ∀ p ∈ L, p ∈ K) : L.length ≤ K.length := by
  induction L generalizing K with
  | nil => simp
  | cons a L ih =>
    have ha := h a (List.mem_cons_self ..)
    have hL' := List.nodup_cons.mp hL
    have : L.length ≤ (K.erase a).length := ih hL'.2 fun p hp => by
      have hne : p ≠ a := fun q => hL'.1 (q ▸ hp)
      exact (List.mem_erase_of_ne hne).mpr (h p (List.mem_cons_of_mem _ hp))
    rw [List.length_erase_of_mem ha] at this
    have : 0 < K.length := List.length_pos_of_mem ha
    rw [List.length_cons]
    omega
/-- a list within another one of no greater length has all of it -/
theorem sub_all {L K : List Pt} (hL : L.Nodup) (h : ∀ p ∈ L, p ∈ K) (hl : K.length ≤ L.length) : ∀ p ∈ K, p ∈ L := by
  intro p hp
  apply Classical.byContradiction
  intro hn
  have : (p :: L).length ≤ K.length := sub_len (List.nodup_cons.mpr ⟨hn, hL⟩) fun q hq => by
    rcases List.mem_cons.mp hq with rfl | hq
    · exact hp
    · exact h q hq
  rw [List.length_cons] at this
  omega

theorem RK_nocross {S : Sys} {K : List Pt} (w : S.Wf) (hs : Suff S K) : ∀ v s, (v, s) ∈ S.points → NoCross S (RK S K) v s := by
  intro v s hp
  have hm := mem_points.mp hp
  refine ⟨fun h _ => (RK_sp hp).mpr (.inl h), fun l h o ho hr => ?_, fun s' e hp' hr => ?_, fun ha hr => ?_⟩
  · have ho' := w.ops v hm.1 l h o ho
    have hpo : (o, s) ∈ S.points := mem_points.mpr ⟨ho'.1, hm.2.1, by
      have := hm.2.2
      unfold here at this ⊢
      simp only [decide_eq_true_eq] at this ⊢
      omega⟩
    exact (RK_sp hp).mpr (.inr ⟨l, o, h, ho, (RK_lo hpo).mp hr⟩)
  · subst e
    exact (RK_lo hp).mpr (.stay hp ((RK_lo hp').mp hr))
  · exact absurd ((RK_lo hp).mp hr) (hs s hm.2.1 v ha)
theorem RK_cut {S : Sys} {K : List Pt} {v : Int} {s : Nat} (hp : (v, s) ∈ S.points) (h : S.cut (RK S K) (v, s) = true) : (v, s) ∈ K := by
  unfold cut at h
  simp only [Bool.and_eq_true, Bool.not_eq_true'] at h
  obtain ⟨⟨h1, h2⟩, h3⟩ := h
  apply Classical.byContradiction
  intro hk
  have := (RK_lo hp).mpr (((RK_sp hp).mp h1).gone hp hk h3)
  rw [h2] at this
  cases this
/-- the flow is at most any sufficient keeps -/
theorem val_le {S : Sys} {K : List Pt} {F : List Int} {val : Int} (w : S.Wf) (fl : Flow S.edges F val) (hs : Suff S K) : val ≤ K.length := by
  have h1 := fl.weak (RK0 (S := S) (K := K)) RK1
  rw [outCap_edges (RK_nocross w hs)] at h1
  have h2 : (S.points.filter (S.cut (RK S K))).length ≤ K.length := sub_len (nodup_filter (nodup_points w)) fun p hp => by
    have := List.mem_filter.mp hp
    exact RK_cut (v := p.1) (s := p.2) this.1 this.2
  omega
/-- all that can be kept is kept -/
def cands (S : Sys) : List Pt := S.points.filter fun p => !S.live p.1 p.2
theorem suff_cands {S : Sys} : Suff S S.cands := by
  intro s _ v _ h
  have key : ∀ v s, Lost S S.cands v s → False := by
    intro v s h
    induction h with
    | leaf hp _ hk hl => exact hk (List.mem_filter.mpr ⟨hp, by simp [hl]⟩)
    | op hp _ _ _ hk hl _ => exact hk (List.mem_filter.mpr ⟨hp, by simp [hl]⟩)
    | stay _ _ ih => exact ih
  exact key v s h
theorem val_most {S : Sys} {F : List Int} {val : Int} (w : S.Wf) (fl : Flow S.edges F val) : val ≤ S.points.length := by
  have h := val_le w fl suff_cands
  have : S.cands.length ≤ S.points.length := List.length_filter_le _ _
  omega
theorem cap_nonneg {S : Sys} : ∀ e ∈ S.edges, 0 ≤ e.2.2 := by
  intro e he
  unfold edges at he
  obtain ⟨p, hp, he⟩ := List.mem_flatMap.mp he
  unfold edgesAt at he
  have hm : 0 ≤ S.most := by unfold most; omega
  simp only [List.mem_append] at he
  rcases he with he | he | he | he
  · unfold frontAt at he
    split at he
    · simp at he; subst he; exact hm
    · simp only [List.mem_map] at he
      obtain ⟨o, _, rfl⟩ := he
      exact hm
  · split at he
    · simp at he
    · simp at he; subst he; exact Int.zero_le_ofNat 1
  · unfold backAt at he
    split at he
    · simp at he
    · split at he
      · simp at he; subst he; exact hm
      · simp at he
  · split at he
    · simp at he; subst he; exact hm
    · simp at he

structure Least (S : Sys) (ks : List Pt) : Prop where
  cand : ∀ p ∈ ks, p ∈ S.points ∧ S.live p.1 p.2 = false
  nodup : ks.Nodup
  suff : Suff S ks
  few : ∀ K : List Pt, K.Nodup → Suff S K → ks.length ≤ K.length
  sub : ∀ K : List Pt, K.Nodup → Suff S K → K.length = ks.length → ∀ v s, Lost S ks v s → Lost S K v s
  uniq : ∀ K : List Pt, K.Nodup → Suff S K → K.length = ks.length → (∀ v s, Lost S K v s → Lost S ks v s) → ∀ p, p ∈ K ↔ p ∈ ks

theorem least_cut {S : Sys} {F : List Int} {val : Int} {R : Int → Bool} (w : S.Wf) (fl : Flow S.edges F val) (r0 : R 0 = true) (r1 : R 1 = false) (hc : Closed R S.edges F)
    (hmin : ∀ R' : Int → Bool, R' 0 = true → Closed R' S.edges F → ∀ x, R x = true → R' x = true) : Least S (S.points.filter (S.cut R)) := by
  have hfull := hc.full fl
  have hval := fl.full_eq r0 r1 hfull
  have hmost := val_most w fl
  -- no great edge leads out
  have great : ∀ e ∈ S.edges, e.2.2 = S.most → R e.1 = true → R e.2.1 = true := by
    intro e he hm h1
    cases h2 : R e.2.1 with
    | true => rfl
    | false =>
      have := outCap_ge cap_nonneg e he h1 h2
      unfold most at hm
      omega
  have mem_at : ∀ p ∈ S.points, ∀ e ∈ S.edgesAt p, e ∈ S.edges := fun p hp e he => List.mem_flatMap.mpr ⟨p, hp, he⟩
  have nc : ∀ v s, (v, s) ∈ S.points → NoCross S R v s := by
    intro v s hp
    refine ⟨fun h hr => ?_, fun l h o ho hr => ?_, fun s' e hp' hr => ?_, fun ha hr => ?_⟩
    · refine great (0, S.sp (v, s), S.most) (mem_at _ hp _ ?_) rfl hr
      unfold edgesAt frontAt
      simp [h]
    · refine great (S.lo (o, s), S.sp (v, s), S.most) (mem_at _ hp _ ?_) rfl hr
      unfold edgesAt frontAt
      simp only [h, List.mem_append, List.mem_map]
      exact .inl ⟨o, ho, rfl⟩
    · subst e
      refine great (S.lo (v, s'), S.lo (v, s' + 1), S.most) (mem_at _ hp _ ?_) rfl hr
      unfold edgesAt backAt
      simp [hp']
    · refine great (S.lo (v, s), 1, S.most) (mem_at _ hp _ ?_) rfl hr
      unfold edgesAt
      simp [ha]
  have hcap := outCap_edges nc
  have hnd := nodup_points w
  generalize hks : S.points.filter (S.cut R) = ks at *
  have hlen : val = (ks.length : Int) := by omega
  have mem_ks : ∀ v s, (v, s) ∈ ks ↔ (v, s) ∈ S.points ∧ R (S.sp (v, s)) = true ∧ R (S.lo (v, s)) = false ∧ S.live v s = false := by
    intro v s
    rw [← hks, List.mem_filter]
    unfold cut
    simp only [Bool.and_eq_true, Bool.not_eq_true']
    constructor
    · rintro ⟨a, ⟨b, c⟩, d⟩; exact ⟨a, b, c, d⟩
    · rintro ⟨a, b, c, d⟩; exact ⟨a, ⟨b, c⟩, d⟩
  have nks : ks.Nodup := hks ▸ nodup_filter hnd
  -- what is lost by ks is lost in the cut
  have lost_R : ∀ v s, Lost S ks v s → R (S.lo (v, s)) = true := by
    intro v s h
    have fin : ∀ v s, (v, s) ∈ S.points → (v, s) ∉ ks → S.live v s = false → R (S.sp (v, s)) = true → R (S.lo (v, s)) = true := by
      intro v s hp hk hl hr
      cases q : R (S.lo (v, s)) with
      | true => rfl
      | false => exact absurd ((mem_ks v s).mpr ⟨hp, hr, q, hl⟩) hk
    induction h with
    | leaf hp ho hk hl => exact fin _ _ hp hk hl ((nc _ _ hp).src ho r0)
    | op hp ho hm _ hk hl ih => exact fin _ _ hp hk hl ((nc _ _ hp).ops _ ho _ hm ih)
    | stay hp h ih => exact (nc _ _ hp).stay _ rfl h.pt ih
  have suff_ks : Suff S ks := by
    intro s hs v hv h
    have hp := h.pt
    have := (nc v s hp).snk hv (lost_R v s h)
    rw [r1] at this
    cases this
  -- the cut lies within the cut of any keeps of the same number
  have inside : ∀ K : List Pt, K.Nodup → Suff S K → K.length = ks.length → ∀ x, R x = true → RK S K x = true := by
    intro K hK hs hl
    have h1 := fl.weak (RK0 (S := S) (K := K)) RK1
    have h2 := outCap_edges (RK_nocross w hs)
    have h3 : (S.points.filter (S.cut (RK S K))).length ≤ K.length := sub_len (nodup_filter hnd) fun p hp => by
      have := List.mem_filter.mp hp
      exact RK_cut (v := p.1) (s := p.2) this.1 this.2
    have h4 : val = outCap (RK S K) S.edges := by omega
    exact hmin _ RK0 (fl.full_of RK0 RK1 h4).closed
  have R_lost : ∀ v s, (v, s) ∈ S.points → R (S.lo (v, s)) = true → Lost S ks v s := fun v s hp h => (RK_lo hp).mp (inside ks nks suff_ks rfl _ h)
  have R_open : ∀ v s, (v, s) ∈ S.points → R (S.sp (v, s)) = true → Open S ks v s := fun v s hp h => (RK_sp hp).mp (inside ks nks suff_ks rfl _ h)
  have sub : ∀ K : List Pt, K.Nodup → Suff S K → K.length = ks.length → ∀ v s, Lost S ks v s → Lost S K v s := fun K hK hs hl v s h =>
    (RK_lo h.pt).mp (inside K hK hs hl _ (lost_R v s h))
  refine ⟨fun p hp => ?_, nks, suff_ks, fun K hK hs => ?_, sub, fun K hK hs hl hb => ?_⟩
  · have := (mem_ks p.1 p.2).mp hp
    exact ⟨this.1, this.2.2.2⟩
  · have := val_le w fl hs
    omega
  · have h1 : ∀ p ∈ ks, p ∈ K := by
      rintro ⟨v, s⟩ hp
      obtain ⟨a, b, c, d⟩ := (mem_ks v s).mp hp
      apply Classical.byContradiction
      intro hn
      have ho : Open S K v s := by
        rcases R_open v s a b with h | ⟨l, o, h1, h2, h3⟩
        · exact .inl h
        · exact .inr ⟨l, o, h1, h2, sub K hK hs hl _ _ h3⟩
      have := lost_R v s (hb v s (ho.gone a hn d))
      rw [c] at this
      cases this
    have h2 := sub_all nks h1 (by omega)
    exact fun p => ⟨h2 p, h1 p⟩
end Sys
end LK

/-! The rows of a stretch as plain data, and what both readings of them hold. -/
namespace LK
inductive Row where
  | leaf (v : Int)
  | set (v : Int) (ops : List Int)
  | use (vs : List Int)
  | stop (asked : List Int)
namespace Row
def val : Row → Option Int
  | .leaf v => some v
  | .set v _ => some v
  | _ => none
def needs : Row → List Int
  | .set _ l => l
  | .use l => l
  | _ => []
def ask : Row → Option (List Int)
  | .stop l => some l
  | _ => none
def ops : Row → Option (List Int)
  | .set _ l => some l
  | _ => none
end Row
def at1 (r : Row) (n : Nat) : List (Int × Nat) := match r.val with
  | some v => [(v, n)]
  | none => []
def placesF : Nat → List Row → List (Int × Nat)
  | _, [] => []
  | n, r :: rs => at1 r n ++ placesF (n + 1) rs
def places (rs : List Row) : List (Int × Nat) := placesF 0 rs
theorem placesF_append : ∀ (a b : List Row) (n : Nat), placesF n (a ++ b) = placesF n a ++ placesF (n + a.length) b
  | [], b, n => by simp [placesF]
  | r :: a, b, n => by
    simp only [List.cons_append, placesF, placesF_append a b (n + 1), List.length_cons, List.append_assoc]
    rw [show n + 1 + a.length = n + (a.length + 1) by omega]
theorem places_snoc (a : List Row) (r : Row) : places (a ++ [r]) = places a ++ at1 r a.length := by
  unfold places
  rw [placesF_append]
  simp [placesF]
def order (rs : List Row) : List Int := (places rs).map (·.1)
theorem order_snoc (a : List Row) (r : Row) : order (a ++ [r]) = order a ++ r.val.toList := by
  unfold order
  rw [places_snoc, List.map_append]
  unfold at1
  cases r.val <;> simp
theorem order_append (a b : List Row) : ∃ c, order (a ++ b) = order a ++ c := by
  unfold order places
  rw [placesF_append]
  exact ⟨_, List.map_append⟩
def plOf (rs : List Row) (v : Int) : Nat := ((places rs).lookup v).getD 0
def stopsF : Nat → List Row → List Nat
  | _, [] => []
  | n, r :: rs => (if r.ask.isSome then [n] else []) ++ stopsF (n + 1) rs
def stops (rs : List Row) : List Nat := stopsF 0 rs
theorem stopsF_append : ∀ (a b : List Row) (n : Nat), stopsF n (a ++ b) = stopsF n a ++ stopsF (n + a.length) b
  | [], b, n => by simp [stopsF]
  | r :: a, b, n => by
    simp only [List.cons_append, stopsF, stopsF_append a b (n + 1), List.length_cons, List.append_assoc]
    rw [show n + 1 + a.length = n + (a.length + 1) by omega]
theorem stops_snoc (a : List Row) (r : Row) : stops (a ++ [r]) = stops a ++ (if r.ask.isSome then [a.length] else []) := by
  unfold stops
  rw [stopsF_append]
  simp [stopsF]
def askedL (rs : List Row) : List (List Int) := rs.filterMap Row.ask
theorem askedL_snoc (a : List Row) (r : Row) : askedL (a ++ [r]) = askedL a ++ r.ask.toList := by
  unfold askedL
  rw [List.filterMap_append]
  cases h : r.ask <;> simp [h]
def needFrom : Nat → (Int → Option Nat) → List Row → (Int → Option Nat)
  | _, f, [] => f
  | n, f, r :: rs => needFrom (n + 1) (fun x => if x ∈ r.needs then some n else f x) rs
theorem needFrom_append : ∀ (a b : List Row) (n : Nat) (f : Int → Option Nat), needFrom n f (a ++ b) = needFrom (n + a.length) (needFrom n f a) b
  | [], b, n, f => by simp [needFrom]
  | r :: a, b, n, f => by
    simp only [List.cons_append, needFrom, needFrom_append a b (n + 1), List.length_cons]
    rw [show n + 1 + a.length = n + (a.length + 1) by omega]
def needR (rs : List Row) : Int → Option Nat := needFrom 0 (fun _ => none) rs
theorem needR_snoc (a : List Row) (r : Row) (x : Int) : needR (a ++ [r]) x = if x ∈ r.needs then some a.length else needR a x := by
  unfold needR
  rw [needFrom_append]
  simp [needFrom]
def needAll (rs : List Row) (out : List Int) (x : Int) : Option Nat := if x ∈ out then some rs.length else needR rs x
def opsOf (rs : List Row) (v : Int) : Option (List Int) := (rs[plOf rs v]?).bind Row.ops

def RowOk (known : List Int) : Row → Prop
  | .leaf v => 0 ≤ v ∧ v ∉ known
  | .set v l => (0 ≤ v ∧ v ∉ known) ∧ ∀ o ∈ l, o ∈ known
  | .use l => ∀ o ∈ l, o ∈ known
  | .stop l => ∀ o ∈ l, o ∈ known
def Valid (rs : List Row) : Prop := ∀ (i : Nat) (r : Row), rs[i]? = some r → RowOk (order (rs.take i)) r
theorem Valid.nil : Valid [] := fun i r h => by simp at h
theorem Valid.snoc {a : List Row} {r : Row} (h : Valid a) (hr : RowOk (order a) r) : Valid (a ++ [r]) := by
  intro i r' hi
  rcases Nat.lt_or_ge i a.length with lt | ge
  · rw [List.getElem?_append_left lt] at hi
    rw [List.take_append_of_le_length (by omega)]
    exact h i r' hi
  · rw [List.getElem?_append_right ge] at hi
    have e : i - a.length = 0 := by
      rcases Nat.eq_zero_or_pos (i - a.length) with z | z
      · exact z
      · rw [List.getElem?_eq_none (by simp; omega)] at hi; cases hi
    rw [e] at hi
    simp at hi
    subst hi
    have : i = a.length := by omega
    subst this
    simpa using hr
theorem Valid.front {a b : List Row} (h : Valid (a ++ b)) : Valid a := by
  intro i r hi
  have lt := (List.getElem?_eq_some_iff.mp hi).1
  have := h i r (by rw [List.getElem?_append_left lt]; exact hi)
  rw [List.take_append_of_le_length (by omega)] at this
  exact this
theorem Valid.last {a : List Row} {r : Row} (h : Valid (a ++ [r])) : RowOk (order a) r := by
  have := h a.length r (by simp)
  simpa using this
theorem RowOk.val {known : List Int} {r : Row} {v : Int} (h : RowOk known r) (e : r.val = some v) : 0 ≤ v ∧ v ∉ known := by
  cases r with
  | leaf w => cases e; exact h
  | set w l => cases e; exact h.1
  | use l => cases e
  | stop l => cases e
theorem snoc_induct {α : Type} {P : List α → Prop} (h0 : P []) (hs : ∀ l a, P l → P (l ++ [a])) : ∀ l, P l := by
  intro l
  have : ∀ n (l : List α), l.length = n → P l := by
    intro n
    induction n with
    | zero => intro l hl; rw [List.length_eq_zero_iff.mp hl]; exact h0
    | succ n ih =>
      intro l hl
      have hne : l ≠ [] := fun z => by rw [z] at hl; simp at hl
      rw [← List.dropLast_concat_getLast hne]
      exact hs _ _ (ih _ (by rw [List.length_dropLast]; omega))
  exact this _ l rfl

/-- places rise, and lie below the number of rows -/
theorem places_lt : ∀ (rs : List Row) (v : Int) (n : Nat), (v, n) ∈ places rs → ∃ r, rs[n]? = some r ∧ r.val = some v := by
  intro rs
  induction rs using snoc_induct with
  | h0 => intro v n h; simp [places, placesF] at h
  | hs a r ih =>
    intro v n h
    rw [places_snoc] at h
    rcases List.mem_append.mp h with h | h
    · obtain ⟨r', h1, h2⟩ := ih v n h
      have lt := (List.getElem?_eq_some_iff.mp h1).1
      exact ⟨r', by rw [List.getElem?_append_left lt]; exact h1, h2⟩
    · unfold at1 at h
      split at h
      · rename_i w hw
        simp at h
        obtain ⟨rfl, rfl⟩ := h
        exact ⟨r, by simp, hw⟩
      · simp at h
theorem order_nodup {rs : List Row} (h : Valid rs) : (order rs).Nodup := by
  induction rs using snoc_induct with
  | h0 => exact List.nodup_nil
  | hs a r ih =>
    rw [order_snoc]
    cases hv : r.val with
    | none => simpa using ih h.front
    | some v =>
      have := h.last.val hv
      rw [List.nodup_append]
      refine ⟨ih h.front, by simp, ?_⟩
      intro x hx y hy
      simp at hy
      subst hy
      intro q
      subst q
      exact this.2 hx
theorem lookup_append {l m : List (Int × Nat)} {v : Int} : (l ++ m).lookup v = (l.lookup v).or (m.lookup v) := by
  induction l with
  | nil => simp
  | cons p l ih =>
    obtain ⟨a, b⟩ := p
    simp only [List.cons_append, List.lookup_cons]
    cases v == a <;> simp [ih]
theorem lookup_none {l : List (Int × Nat)} {v : Int} : l.lookup v = none ↔ v ∉ l.map (·.1) := by
  induction l with
  | nil => simp
  | cons p l ih =>
    obtain ⟨a, b⟩ := p
    rw [List.lookup_cons]
    by_cases q : v = a
    · simp [q]
    · have : (v == a) = false := by simp [q]
      rw [this]
      simp [ih, q]
theorem lookup_mem {l : List (Int × Nat)} {v : Int} {n : Nat} (h : l.lookup v = some n) : (v, n) ∈ l := by
  induction l with
  | nil => simp at h
  | cons p l ih =>
    obtain ⟨a, b⟩ := p
    rw [List.lookup_cons] at h
    by_cases q : v = a
    · subst q
      simp at h
      subst h
      exact List.mem_cons_self ..
    · have : (v == a) = false := by simp [q]
      rw [this] at h
      exact List.mem_cons_of_mem _ (ih h)
theorem plOf_mem {rs : List Row} {v : Int} (h : v ∈ order rs) : (v, plOf rs v) ∈ places rs ∧ (places rs).lookup v = some (plOf rs v) := by
  unfold plOf
  cases q : (places rs).lookup v with
  | none => exact absurd h (lookup_none.mp q)
  | some n => exact ⟨lookup_mem q, rfl⟩
theorem plOf_row {rs : List Row} {v : Int} (h : v ∈ order rs) : ∃ r, rs[plOf rs v]? = some r ∧ r.val = some v := places_lt rs v _ (plOf_mem h).1
theorem plOf_append {a b : List Row} {v : Int} (h : v ∈ order a) : plOf (a ++ b) v = plOf a v := by
  have := (plOf_mem h).2
  unfold plOf places
  rw [placesF_append, lookup_append]
  unfold places at this
  rw [this]
  simp
theorem plOf_new {a : List Row} {r : Row} {v : Int} (h : v ∉ order a) (hv : r.val = some v) : plOf (a ++ [r]) v = a.length := by
  unfold plOf
  rw [places_snoc, lookup_append, lookup_none.mpr h]
  unfold at1
  rw [hv]
  simp
theorem plOf_lt {a : List Row} {v : Int} (h : v ∈ order a) : plOf a v < a.length := by
  obtain ⟨r, h1, _⟩ := plOf_row h
  exact (List.getElem?_eq_some_iff.mp h1).1
theorem mem_order_front {a b : List Row} {v : Int} (h : v ∈ order a) : v ∈ order (a ++ b) := by
  obtain ⟨c, e⟩ := order_append a b
  rw [e]
  exact List.mem_append_left _ h
theorem RowOk.ops {known : List Int} {r : Row} {l : List Int} (h : RowOk known r) (e : r.ops = some l) : ∀ o ∈ l, o ∈ known := by
  cases r with
  | leaf w => cases e
  | set w l' => cases e; exact h.2
  | use l => cases e
  | stop l => cases e
theorem RowOk.ask {known : List Int} {r : Row} {l : List Int} (h : RowOk known r) (e : r.ask = some l) : ∀ o ∈ l, o ∈ known := by
  cases r with
  | leaf w => cases e
  | set w l' => cases e
  | use l => cases e
  | stop l => cases e; exact h
theorem RowOk.needs {known : List Int} {r : Row} (h : RowOk known r) : ∀ o ∈ r.needs, o ∈ known := by
  cases r with
  | leaf w => intro o ho; simp [Row.needs] at ho
  | set w l' => exact h.2
  | use l => exact h
  | stop l => intro o ho; simp [Row.needs] at ho

theorem stops_at : ∀ (rs : List Row) (s : Nat), s < (stops rs).length → ∃ r l, rs[(stops rs).getD s 0]? = some r ∧ r.ask = some l ∧ (askedL rs)[s]? = some l := by
  intro rs
  induction rs using snoc_induct with
  | h0 => intro s h; simp [stops, stopsF] at h
  | hs a r ih =>
    intro s h
    rw [stops_snoc] at h ⊢
    rw [askedL_snoc]
    have hlen : (askedL a).length = (stops a).length := by
      clear ih h
      induction a using snoc_induct with
      | h0 => rfl
      | hs a r ih => rw [stops_snoc, askedL_snoc, List.length_append, List.length_append, ih]; cases r.ask <;> simp
    rcases Nat.lt_or_ge s (stops a).length with lt | ge
    · obtain ⟨r', l, h1, h2, h3⟩ := ih s lt
      have lt2 := (List.getElem?_eq_some_iff.mp h1).1
      refine ⟨r', l, ?_, h2, ?_⟩
      · rw [List.getD_eq_getElem?_getD, List.getElem?_append_left lt, ← List.getD_eq_getElem?_getD, List.getElem?_append_left lt2]
        exact h1
      · rw [List.getElem?_append_left (by omega)]
        exact h3
    · cases hr : r.ask with
      | none => rw [hr] at h; simp at h; omega
      | some l =>
        rw [hr] at h
        simp at h
        have es : s = (stops a).length := by omega
        subst es
        refine ⟨r, l, ?_, hr, ?_⟩
        · simp [List.getD_eq_getElem?_getD]
        · rw [List.getElem?_append_right (by omega), hlen]
          simp
theorem askedL_len (rs : List Row) : (askedL rs).length = (stops rs).length := by
  induction rs using snoc_induct with
  | h0 => rfl
  | hs a r ih => rw [stops_snoc, askedL_snoc, List.length_append, List.length_append, ih]; cases r.ask <;> simp
theorem stops_lt : ∀ (rs : List Row) (n : Nat), n ∈ stops rs → n < rs.length := by
  intro rs
  induction rs using snoc_induct with
  | h0 => intro n h; simp [stops, stopsF] at h
  | hs a r ih =>
    intro n h
    rw [stops_snoc] at h
    rw [List.length_append]
    rcases List.mem_append.mp h with h | h
    · have := ih n h; simp; omega
    · split at h
      · simp at h; simp; omega
      · simp at h
theorem stops_inc (rs : List Row) : (stops rs).Pairwise (· < ·) := by
  induction rs using snoc_induct with
  | h0 => exact List.Pairwise.nil
  | hs a r ih =>
    rw [stops_snoc, List.pairwise_append]
    refine ⟨ih, ?_, ?_⟩
    · split <;> simp
    · intro x hx y hy
      have := stops_lt a x hx
      split at hy
      · simp at hy; omega
      · simp at hy

def sysOf (rs : List Row) (out : List Int) : Sys where
  vals := order rs
  pl := plOf rs
  ops := opsOf rs
  stops := stops rs
  asked := askedL rs
  need := fun x => match needAll rs out x with
    | some n => (n : Int)
    | none => -1
theorem valid_at {rs : List Row} (h : Valid rs) {n : Nat} {r : Row} (hr : rs[n]? = some r) : ∀ l, (r.ops = some l ∨ r.ask = some l) → ∀ o ∈ l, o ∈ order rs ∧ plOf rs o < n := by
  have ok := h n r hr
  intro l hl o ho
  have hk : o ∈ order (rs.take n) := by
    rcases hl with e | e
    · exact ok.ops e o ho
    · exact ok.ask e o ho
  have lt := (List.getElem?_eq_some_iff.mp hr).1
  have e := List.take_append_drop n rs
  have h1 := plOf_append (b := rs.drop n) hk
  have h2 := mem_order_front (b := rs.drop n) hk
  rw [e] at h1 h2
  have h3 := plOf_lt hk
  rw [List.length_take] at h3
  exact ⟨h2, by omega⟩
theorem wf_sysOf {rs : List Row} {out : List Int} (h : Valid rs) : (sysOf rs out).Wf where
  nodup := order_nodup h
  alen := askedL_len rs
  inc := fun i j hij hj => by
    have hj' : j < (stops rs).length := hj
    have hi : i < (stops rs).length := by omega
    have := List.pairwise_iff_getElem.mp (stops_inc rs) i j hi hj' hij
    show (stops rs).getD i 0 < (stops rs).getD j 0
    rw [List.getD_eq_getElem?_getD, List.getD_eq_getElem?_getD, List.getElem?_eq_getElem hi, List.getElem?_eq_getElem hj']
    exact this
  ops := fun v hv l hl o ho => by
    obtain ⟨r, h1, h2⟩ := plOf_row (show v ∈ order rs from hv)
    have e : opsOf rs v = some l := hl
    unfold opsOf at e
    rw [h1] at e
    exact valid_at h h1 l (.inl e) o ho
  asks := fun s hs v hv => by
    obtain ⟨r, l, h1, h2, h3⟩ := stops_at rs s hs
    have ev : v ∈ (askedL rs).getD s [] := hv
    rw [List.getD_eq_getElem?_getD, h3] at ev
    have := valid_at h h1 l (.inr h2) v ev
    refine ⟨this.1, ?_⟩
    show decide (plOf rs v < (stops rs).getD s 0) = true
    exact decide_eq_true this.2
theorem points_le (S : Sys) : S.points.length ≤ S.stops.length * S.vals.length := by
  unfold Sys.points
  have : ∀ l : List Nat, (l.flatMap fun s => (S.present s).map fun v => (v, s)).length ≤ l.length * S.vals.length := by
    intro l
    induction l with
    | nil => simp
    | cons a l ih =>
      rw [List.flatMap_cons, List.length_append, List.length_map, List.length_cons, Nat.succ_mul]
      have : (S.present a).length ≤ S.vals.length := List.length_filter_le _ _
      omega
  have h := this (List.range S.stops.length)
  rw [List.length_range] at h
  exact h
end LK

/-! Least keeps: what is the same for another sequence; only one sorted list. -/
namespace LK
namespace Sys
theorem lost_congr {S : Sys} {K L : List Pt} (h : ∀ p, p ∈ K ↔ p ∈ L) {v : Int} {s : Nat} (hl : Lost S K v s) : Lost S L v s := by
  induction hl with
  | leaf a b c d => exact .leaf a b (fun z => c ((h _).mpr z)) d
  | op a b c _ e f ih => exact .op a b c ih (fun z => e ((h _).mpr z)) f
  | stay a _ ih => exact .stay a ih
theorem Least.perm {S : Sys} {K L : List Pt} (h : Least S K) (p : L.Perm K) : Least S L := by
  have m : ∀ x, x ∈ L ↔ x ∈ K := fun x => p.mem_iff
  have le := p.length_eq
  refine ⟨fun x hx => h.cand x ((m x).mp hx), p.nodup_iff.mpr h.nodup, fun s hs v hv hl => h.suff s hs v hv (lost_congr m hl), fun M hM hs => by rw [le]; exact h.few M hM hs, fun M hM hs hl v s hL => ?_, fun M hM hs hl hb x => ?_⟩
  · exact h.sub M hM hs (by rw [hl, le]) v s (lost_congr m hL)
  · rw [m x]
    exact h.uniq M hM hs (by rw [hl, le]) (fun v s hL => lost_congr m (hb v s hL)) x
theorem nodup_perm {K L : List Pt} (hK : K.Nodup) (hL : L.Nodup) (h : ∀ p, p ∈ K ↔ p ∈ L) : K.Perm L := (List.perm_ext_iff_of_nodup hK hL).mpr h
/-- two least keeps are the same but for their sequence -/
theorem Least.same {S : Sys} {K L : List Pt} (h : Least S K) (k : Least S L) : K.Perm L := by
  have le : K.length = L.length := Nat.le_antisymm (h.few L k.nodup k.suff) (k.few K h.nodup h.suff)
  refine nodup_perm h.nodup k.nodup fun p => ?_
  exact k.uniq K h.nodup h.suff le (fun v s hl => h.sub L k.nodup k.suff le.symm v s hl) p
/-- the list D has exactly what is lost by K -/
def IsLost (S : Sys) (K D : List Pt) : Prop := D.Nodup ∧ ∀ v s, (v, s) ∈ D ↔ Lost S K v s
/-- any other sufficient keeps of no greater length: as many, more is lost, what the least ones lose among it -/
theorem Least.other {S : Sys} {K L DK DL : List Pt} (h : Least S L) (hK : K.Nodup) (hs : Suff S K) (hle : K.length ≤ L.length) (hn : ¬ K.Perm L) (eK : IsLost S K DK) (eL : IsLost S L DL) :
    K.length = L.length ∧ DL.length < DK.length ∧ ∀ p ∈ DL, p ∈ DK := by
  have le : K.length = L.length := Nat.le_antisymm hle (h.few K hK hs)
  have sub : ∀ p ∈ DL, p ∈ DK := fun p hp => (eK.2 p.1 p.2).mpr (h.sub K hK hs le _ _ ((eL.2 p.1 p.2).mp hp))
  refine ⟨le, ?_, sub⟩
  apply Classical.byContradiction
  intro hc
  have all := sub_all eL.1 sub (by omega)
  exact hn (nodup_perm hK h.nodup (h.uniq K hK hs le fun v s hl => (eL.2 v s).mp (all _ ((eK.2 v s).mpr hl))))
end Sys
theorem sorted_perm {α : Type} {R : α → α → Prop} (anti : ∀ a b, R a b → R b a → a = b) : ∀ {l m : List α}, l.Pairwise R → m.Pairwise R → l.Perm m → l = m
  | [], m, _, _, p => (List.nil_perm.mp p).symm ▸ rfl
  | a :: l, [], _, _, p => by simp at p
  | a :: l, b :: m, hl, hm, p => by
    have hl' := List.pairwise_cons.mp hl
    have hm' := List.pairwise_cons.mp hm
    have e : a = b := by
      have h1 : a ∈ b :: m := p.mem_iff.mp (List.mem_cons_self ..)
      have h2 : b ∈ a :: l := p.mem_iff.mpr (List.mem_cons_self ..)
      rcases List.mem_cons.mp h1 with z | z
      · exact z
      · rcases List.mem_cons.mp h2 with y | y
        · exact y.symm
        · exact anti _ _ (hl'.1 b y) (hm'.1 a z)
    subst e
    rw [sorted_perm anti hl'.2 hm'.2 (List.perm_cons a |>.mp p)]
end LK

/-! More of what evaluates to what: values, new objects, dicts, calls, comprehensions. -/
namespace LKW
open PySem PySem.Spec PyProof.Rows L2 Evl

/-- a new object at p of which P holds -/
def EvN (te : TE) (σ : L2.St) (H : Hp) (P : Addr → Hp → Prop) : Prop := ∀ H1, Ex H H1 → ∀ Q : VK, (∀ p H2, H1 p = none → Ex H1 H2 → P p H2 → Q (.ref p) H2) → te σ H1 Q
/-- a value of which P holds -/
def EvP (te : TE) (σ : L2.St) (H : Hp) (P : V → Hp → Prop) : Prop := ∀ H1, Ex H H1 → ∀ Q : VK, (∀ v H2, Ex H1 H2 → P v H2 → Q v H2) → te σ H1 Q
/-- stays true where all objects stay -/
def Mono {α : Type} (P : α → Hp → Prop) : Prop := ∀ a H H', Ex H H' → P a H → P a H'

section
variable {K : PySem.W.Frag} {σ : L2.St} {H H' : Hp} {ta tb te tx : TE} {t u : TT} {x y z v : V} {r : R2} {P : Addr → Hp → Prop} {PV : V → Hp → Prop}

theorem EvN.mono (e : Ex H H') (h : EvN te σ H P) : EvN te σ H' P := fun H1 a Q q => h H1 (e.trans a) Q q
theorem EvP.mono (e : Ex H H') (h : EvP te σ H PV) : EvP te σ H' PV := fun H1 a Q q => h H1 (e.trans a) Q q
theorem Ev.toP (h : Ev te σ H v) : EvP te σ H (fun x _ => x = v) := fun H1 e Q q => h H1 e Q fun H2 e2 => q v H2 e2 rfl
theorem EvN.toP (h : EvN te σ H P) : EvP te σ H (fun x H => ∃ p, x = .ref p ∧ P p H) := fun H1 e Q q => h H1 e Q fun p H2 _ e2 hp => q _ H2 e2 ⟨p, rfl, hp⟩
theorem EvL.toN {xs : List V} (h : EvL te σ H xs) : EvN te σ H (fun p H => H p = some (.lst xs)) := h
theorem EvU.toN {xs : List V} (h : EvU te σ H xs) : EvN te σ H (fun p H => H p = some (.tup xs)) := h
theorem EvN.toL {xs : List V} (h : EvN te σ H (fun p H => H p = some (.lst xs))) : EvL te σ H xs := h

theorem ev_fld {a C dx : Addr} {fs : List (Str × V)} {f : Str} (ha : Ev ta σ H (.ref a)) (ho : H a = some (.ins C dx fs)) (hc : Cls K C) (hn : NoAttr K C f) (hl : fs.lookup f = some v) : Ev (tFld K ta f) σ H v := fun H1 e Q q =>
  ha H1 e _ fun H2 e2 => ⟨a, C, dx, fs, v, rfl, e2 a _ (e a _ ho), hc, hn, hl, q H2 e2⟩

/-! ### dicts -/
theorem rdx {a : Addr} {u : HO} (e : Ex H H') (h : Rd H a u) : Rd H' a u := ex_rd e h
theorem ev_dget {d : Addr} {i : Int} {kvs : List (Key × V)} (hd : Ev ta σ H (.ref d)) (hy : Ev tb σ H (.int i)) (ho : Rd H d (.dK kvs)) (hv : valV kvs (.inl i) = some v) : Ev (tDGet ta tb) σ H v := fun H1 e Q q =>
  hd H1 e _ fun H2 e2 => hy H2 (e.trans e2) _ fun H3 e3 => ⟨d, v, rfl, .inl ⟨kvs, .inl i, rdx ((e.trans e2).trans e3) ho, rfl, hv.symm⟩, q H3 (e2.trans e3)⟩
theorem ev_dgetS {d : Addr} {s : Str} {kvs : List (Key × V)} (hd : Ev ta σ H (.ref d)) (hy : Ev tb σ H (.str s)) (ho : Rd H d (.dK kvs)) (hv : valV kvs (.inr s) = some v) : Ev (tDGet ta tb) σ H v := fun H1 e Q q =>
  hd H1 e _ fun H2 e2 => hy H2 (e.trans e2) _ fun H3 e3 => ⟨d, v, rfl, .inl ⟨kvs, .inr s, rdx ((e.trans e2).trans e3) ho, rfl, hv.symm⟩, q H3 (e2.trans e3)⟩
/-- the key a new tuple -/
theorem ev_dgetT {d : Addr} {k : List Key} {kvs : List (List Key × V)} (hd : Ev ta σ H (.ref d)) (hy : EvU tb σ H (k.map kV)) (ho : Rd H d (.dT kvs)) (hv : valV kvs k = some v) : Ev (tDGet ta tb) σ H v := fun H1 e Q q =>
  hd H1 e _ fun H2 e2 => hy H2 (e.trans e2) _ fun p H3 _ e3 hp => ⟨d, v, rfl, .inr ⟨kvs, k, p, rdx ((e.trans e2).trans e3) ho, rfl, hp, hv.symm⟩, q H3 (e2.trans e3)⟩
/-- the key a tuple that stands -/
theorem ev_dgetR {d b : Addr} {k : List Key} {kvs : List (List Key × V)} (hd : Ev ta σ H (.ref d)) (hy : Ev tb σ H (.ref b)) (hb : H b = some (.tup (k.map kV))) (ho : Rd H d (.dT kvs)) (hv : valV kvs k = some v) : Ev (tDGet ta tb) σ H v := fun H1 e Q q =>
  hd H1 e _ fun H2 e2 => hy H2 (e.trans e2) _ fun H3 e3 => ⟨d, v, rfl, .inr ⟨kvs, k, b, rdx ((e.trans e2).trans e3) ho, rfl, ((e.trans e2).trans e3) b _ hb, hv.symm⟩, q H3 (e2.trans e3)⟩
theorem ev_din {d : Addr} {i : Int} {kvs : List (Key × V)} (hy : Ev tb σ H (.int i)) (hd : Ev ta σ H (.ref d)) (ho : Rd H d (.dK kvs)) : Ev (tDIn tb ta) σ H (.bl (valV kvs (.inl i)).isSome) := fun H1 e Q q =>
  hy H1 e _ fun H2 e2 => hd H2 (e.trans e2) _ fun H3 e3 => ⟨d, _, rfl, .inl ⟨kvs, .inl i, rdx ((e.trans e2).trans e3) ho, rfl, rfl⟩, q H3 (e2.trans e3)⟩
theorem ev_dni {d : Addr} {i : Int} {kvs : List (Key × V)} (hy : Ev tb σ H (.int i)) (hd : Ev ta σ H (.ref d)) (ho : Rd H d (.dK kvs)) : Ev (tDNotIn tb ta) σ H (.bl (!(valV kvs (.inl i)).isSome)) := fun H1 e Q q =>
  hy H1 e _ fun H2 e2 => hd H2 (e.trans e2) _ fun H3 e3 => ⟨d, _, rfl, .inl ⟨kvs, .inl i, rdx ((e.trans e2).trans e3) ho, rfl, rfl⟩, q H3 (e2.trans e3)⟩
theorem ev_dinT {d : Addr} {k : List Key} {kvs : List (List Key × V)} (hy : EvU tb σ H (k.map kV)) (hd : Ev ta σ H (.ref d)) (ho : Rd H d (.dT kvs)) : Ev (tDIn tb ta) σ H (.bl (valV kvs k).isSome) := fun H1 e Q q =>
  hy H1 e _ fun p H2 _ e2 hp => hd H2 (e.trans e2) _ fun H3 e3 => ⟨d, _, rfl, .inr ⟨kvs, k, p, rdx ((e.trans e2).trans e3) ho, rfl, e3 p _ hp, rfl⟩, q H3 (e2.trans e3)⟩
theorem ev_dniT {d : Addr} {k : List Key} {kvs : List (List Key × V)} (hy : EvU tb σ H (k.map kV)) (hd : Ev ta σ H (.ref d)) (ho : Rd H d (.dT kvs)) : Ev (tDNotIn tb ta) σ H (.bl (!(valV kvs k).isSome)) := fun H1 e Q q =>
  hy H1 e _ fun p H2 _ e2 hp => hd H2 (e.trans e2) _ fun H3 e3 => ⟨d, _, rfl, .inr ⟨kvs, k, p, rdx ((e.trans e2).trans e3) ho, rfl, e3 p _ hp, rfl⟩, q H3 (e2.trans e3)⟩
theorem ev_dniR {d b : Addr} {k : List Key} {kvs : List (List Key × V)} (hy : Ev tb σ H (.ref b)) (hb : H b = some (.tup (k.map kV))) (hd : Ev ta σ H (.ref d)) (ho : Rd H d (.dT kvs)) : Ev (tDNotIn tb ta) σ H (.bl (!(valV kvs k).isSome)) := fun H1 e Q q =>
  hy H1 e _ fun H2 e2 => hd H2 (e.trans e2) _ fun H3 e3 => ⟨d, _, rfl, .inr ⟨kvs, k, b, rdx ((e.trans e2).trans e3) ho, rfl, ((e.trans e2).trans e3) b _ hb, rfl⟩, q H3 (e2.trans e3)⟩
/-- d.get(k, x) -/
theorem ev_dget2 {d : Addr} {i : Int} {kvs : List (Key × V)} (hd : Ev ta σ H (.ref d)) (hy : Ev tb σ H (.int i)) (hx : Ev tx σ H x) (ho : Rd H d (.dK kvs)) : Ev (tDGet2 ta tb tx) σ H ((valV kvs (.inl i)).getD x) := fun H1 e Q q =>
  hd H1 e _ fun H2 e2 => ⟨d, rfl, .inl ⟨kvs, rdx (e.trans e2) ho⟩, hy H2 (e.trans e2) _ fun H3 e3 => hx H3 ((e.trans e2).trans e3) _ fun H4 e4 =>
    ⟨_, .inl ⟨kvs, .inl i, rdx (((e.trans e2).trans e3).trans e4) ho, rfl, rfl⟩, q H4 ((e2.trans e3).trans e4)⟩⟩

/-! ### calls -/
/-- a promise that gives a value, a new object, something -/
def SpN (sp : Sp) (vs : List V) (H : Hp) (P : Addr → Hp → Prop) : Prop := ∀ H1, Ex H H1 → ∀ Q : VK, (∀ p H2, H1 p = none → Ex H1 H2 → P p H2 → Q (.ref p) H2) → ∀ E : XK, sp vs H1 Q E
def SpP (sp : Sp) (vs : List V) (H : Hp) (P : V → Hp → Prop) : Prop := ∀ H1, Ex H H1 → ∀ Q : VK, (∀ v H2, Ex H1 H2 → P v H2 → Q v H2) → ∀ E : XK, sp vs H1 Q E
theorem ev_callN {sp : Sp} {dvs vs : List V} {E : XK} {ta : TA} (h : EvA ta σ H vs) (hs : SpN sp (vs ++ dvs) H P) : EvN (tCall sp dvs E ta) σ H P := fun H1 e Q q =>
  h H1 e _ fun H2 e2 => hs H2 (e.trans e2) Q (fun p H3 hp e3 h3 => q p H3 (fresh_back e2 hp) (e2.trans e3) h3) E
theorem ev_callP {sp : Sp} {dvs vs : List V} {E : XK} {ta : TA} (h : EvA ta σ H vs) (hs : SpP sp (vs ++ dvs) H PV) : EvP (tCall sp dvs E ta) σ H PV := fun H1 e Q q =>
  h H1 e _ fun H2 e2 => hs H2 (e.trans e2) Q (fun v H3 e3 h3 => q v H3 (e2.trans e3) h3) E
theorem ev_meth {C a dx : Addr} {m : Str} {sp : Sp} {dvs vs : List V} {E : XK} {fs : List (Str × V)} {tas : TA} (ha : Ev ta σ H (.ref a)) (ho : H a = some (.ins C dx fs)) (hm : fs.lookup m = none) (h : EvA tas σ H vs) (hs : SpV sp (.ref a :: (vs ++ dvs)) H z) :
    Ev (tMeth C m sp dvs E ta tas) σ H z := fun H1 e Q q => ha H1 e _ fun H2 e2 => ⟨a, dx, fs, rfl, e2 a _ (e a _ ho), hm, h H2 (e.trans e2) _ fun H3 e3 => hs H3 ((e.trans e2).trans e3) Q (fun H4 e4 => q H4 ((e2.trans e3).trans e4)) E⟩
theorem ev_methN {C a dx : Addr} {m : Str} {sp : Sp} {dvs vs : List V} {E : XK} {fs : List (Str × V)} {tas : TA} (ha : Ev ta σ H (.ref a)) (ho : H a = some (.ins C dx fs)) (hm : fs.lookup m = none) (h : EvA tas σ H vs) (hs : SpN sp (.ref a :: (vs ++ dvs)) H P) :
    EvN (tMeth C m sp dvs E ta tas) σ H P := fun H1 e Q q => ha H1 e _ fun H2 e2 => ⟨a, dx, fs, rfl, e2 a _ (e a _ ho), hm, h H2 (e.trans e2) _ fun H3 e3 => hs H3 ((e.trans e2).trans e3) Q (fun p H4 hp e4 h4 => q p H4 (fresh_back (e2.trans e3) hp) ((e2.trans e3).trans e4) h4) E⟩
theorem ev_methP {C a dx : Addr} {m : Str} {sp : Sp} {dvs vs : List V} {E : XK} {fs : List (Str × V)} {tas : TA} (ha : Ev ta σ H (.ref a)) (ho : H a = some (.ins C dx fs)) (hm : fs.lookup m = none) (h : EvA tas σ H vs) (hs : SpP sp (.ref a :: (vs ++ dvs)) H PV) :
    EvP (tMeth C m sp dvs E ta tas) σ H PV := fun H1 e Q q => ha H1 e _ fun H2 e2 => ⟨a, dx, fs, rfl, e2 a _ (e a _ ho), hm, h H2 (e.trans e2) _ fun H3 e3 => hs H3 ((e.trans e2).trans e3) Q (fun v H4 e4 h4 => q v H4 ((e2.trans e3).trans e4) h4) E⟩

/-! ### built-ins -/
theorem ev_isi {n : String} {tt : Value} {b : Bool} (hx : Ev ta σ H x) (hc : Ev tb σ H (.ty n)) (ht : ∀ H1, Ex H H1 → TyX K H1 x tt) (hk : PySem.W.kitOne K tt (.type n) = some b) : Ev (tCB (rIsi K) (tCons ta (tCons tb tNil))) σ H (.bl b) := fun H1 e Q q =>
  hx H1 e _ fun H2 e2 => hc H2 (e.trans e2) _ fun H3 e3 => ⟨x, .ty n, tt, .type n, b, rfl, .ty n, ht H3 ((e.trans e2).trans e3), hk, q H3 (e2.trans e3)⟩
theorem ev_isi2 {n m : String} {tt : Value} {b : Bool} (hx : Ev ta σ H x) (hc : EvU tb σ H [.ty n, .ty m]) (ht : ∀ H1, Ex H H1 → TyX K H1 x tt) (hk : PySem.W.kitAny K tt [.type n, .type m] = some b) : Ev (tCB (rIsiT K) (tCons ta (tCons tb tNil))) σ H (.bl b) := fun H1 e Q q =>
  hx H1 e _ fun H2 e2 => hc H2 (e.trans e2) _ fun p H3 _ e3 hp => ⟨x, p, _, tt, _, b, rfl, hp, .cons (.ty n) (.cons (.ty m) .nil), ht H3 ((e.trans e2).trans e3), hk, q H3 (e2.trans e3)⟩
theorem ev_lenT {p : Addr} {xs : List V} (ha : Ev ta σ H (.ref p)) (h : SqT K H p xs) : Ev (tCB (rLenS K) (tCons ta tNil)) σ H (.int (xs.length : Int)) := fun H1 e Q q =>
  ha H1 e _ fun H2 e2 => ⟨p, xs, rfl, Or.inr (ex_t (e.trans e2) h), q H2 e2⟩
theorem ev_lenP {PV : V → Hp → Prop} {n : Nat} (ha : EvP ta σ H PV) (hp : ∀ v H, PV v H → ∃ p ys, v = .ref p ∧ (SqL K H p ys ∨ SqT K H p ys) ∧ ys.length = n) : Ev (tCB (rLenS K) (tCons ta tNil)) σ H (.int (n : Int)) := fun H1 e Q q =>
  ha H1 e _ fun v H2 e2 hv => by
    obtain ⟨p, ys, rfl, h, rfl⟩ := hp v H2 hv
    exact ⟨p, ys, rfl, h, q H2 e2⟩
theorem ev_all {bs : List Bool} (ha : EvL ta σ H (bs.map V.bl)) : Ev (tCB (rAll K) (tCons ta tNil)) σ H (.bl (bs.all id)) := fun H1 e Q q =>
  ha H1 e _ fun p H2 _ e2 hp => ⟨p, bs, rfl, sq_of hp, q H2 e2⟩
theorem ev_int {i : Int} (ha : Ev ta σ H (.int i)) : Ev (tCB (fun xs H Q => (∃ i, xs = [.int i] ∧ Q (.int i) H) ∨ ∃ k, xs = [.bl k] ∧ Q (.int (if k then 1 else 0)) H) (tCons ta tNil)) σ H (.int i) := fun H1 e Q q =>
  ha H1 e _ fun H2 e2 => .inl ⟨i, rfl, q H2 e2⟩
theorem ev_isN (ha : Ev ta σ H x) : Ev (tOp (fun x y H Q => y = .non ∧ Q (.bl (decide (x = .non))) H) ta (tC .non)) σ H (.bl (decide (x = .non))) := fun H1 e Q q => ha H1 e _ fun H2 e2 => ⟨rfl, q H2 e2⟩
theorem ev_notN (ha : Ev ta σ H x) : Ev (tOp (fun x y H Q => y = .non ∧ Q (.bl (!decide (x = .non))) H) ta (tC .non)) σ H (.bl (!decide (x = .non))) := fun H1 e Q q => ha H1 e _ fun H2 e2 => ⟨rfl, q H2 e2⟩
theorem ev_ixT {p : Addr} {xs : List V} {i : Int} (ha : Ev ta σ H (.ref p)) (hb : Ev tb σ H (.int i)) (h : SqT K H p xs) (hi : atI xs i = some v) : Ev (tOp (rIxT K) ta tb) σ H v := ev_op ha hb (rv_ixT h hi)
theorem ev_ixL {p : Addr} {xs : List V} {i : Int} (ha : Ev ta σ H (.ref p)) (hb : Ev tb σ H (.int i)) (h : SqL K H p xs) (hi : atI xs i = some v) : Ev (tOp (rIxL K) ta tb) σ H v := ev_op ha hb (rv_ixL h hi)
end

/-! ### statements -/
section
variable {K : PySem.W.Frag} {σ : L2.St} {H H' : Hp} {ta tb te tx tv : TE} {t u : TT} {x y z v : V} {D : Ends} {tu tw tz : TS} {g : TG} {P : Addr → Hp → Prop} {PV : V → Hp → Prop}
theorem s_asgN {i : Nat} (h : EvN te σ H P) (k : ∀ p H1, H p = none → Ex H H1 → P p H1 → D.nx (σ.set i (some (.ref p))) H1) : tAsg te (gName i) D σ H := h H (Ex.refl H) _ fun p H1 hp e h1 => k p H1 hp e h1
theorem q_asgN {i : Nat} (h : EvN te σ H P) (k : ∀ p H1, H p = none → Ex H H1 → P p H1 → tz D (σ.set i (some (.ref p))) H1) : tSeq (tAsg te (gName i)) tz D σ H := s_asgN (D := { D with nx := tz D }) h k
theorem s_asgP {i : Nat} (h : EvP te σ H PV) (k : ∀ v H1, Ex H H1 → PV v H1 → D.nx (σ.set i (some v)) H1) : tAsg te (gName i) D σ H := h H (Ex.refl H) _ k
theorem q_asgP {i : Nat} (h : EvP te σ H PV) (k : ∀ v H1, Ex H H1 → PV v H1 → tz D (σ.set i (some v)) H1) : tSeq (tAsg te (gName i)) tz D σ H := s_asgP (D := { D with nx := tz D }) h k
theorem s_retN {P : Addr → Hp → Prop} (h : EvN te σ H P) (k : ∀ p H1, H p = none → Ex H H1 → P p H1 → D.rt (.ref p) H1) : tRet te D σ H := h H (Ex.refl H) _ k
theorem s_retP (h : EvP te σ H PV) (k : ∀ v H1, Ex H H1 → PV v H1 → D.rt v H1) : tRet te D σ H := h H (Ex.refl H) _ k
theorem s_fld {a C dx : Addr} {f : Str} {fs : List (Str × V)} (hv : EvP tv σ H PV) (ha : Ev ta σ H (.ref a)) (ho : H a = some (.ins C dx fs)) (hc : Cls K C) (hn : NoAttr K C f) (hl : fs.length < 1000)
    (k : ∀ v H1 H2, Ex H H1 → PV v H1 → Ex H1 H2 → D.nx σ (upd H2 a (.ins C dx (putF f v fs)))) : sFld K ta tv f D σ H := hv H (Ex.refl H) _ fun v H1 e1 p1 => ha H1 e1 _ fun H2 e2 =>
  ⟨a, C, dx, fs, rfl, e2 a _ (e1 a _ ho), hc, hn, hl, k v H1 H2 e1 p1 e2⟩
theorem q_fld {a C dx : Addr} {f : Str} {fs : List (Str × V)} (hv : EvP tv σ H PV) (ha : Ev ta σ H (.ref a)) (ho : H a = some (.ins C dx fs)) (hc : Cls K C) (hn : NoAttr K C f) (hl : fs.length < 1000)
    (k : ∀ v H1 H2, Ex H H1 → PV v H1 → Ex H1 H2 → tz D σ (upd H2 a (.ins C dx (putF f v fs)))) : tSeq (sFld K ta tv f) tz D σ H := s_fld (D := { D with nx := tz D }) hv ha ho hc hn hl k
theorem s_dput {d : Addr} {i : Int} {kvs : List (Key × V)} (hv : Ev tv σ H v) (hd : Ev ta σ H (.ref d)) (hy : Ev tb σ H (.int i)) (ho : H d = some (.dK kvs)) (hl : kvs.length < 100000)
    (k : ∀ H1, Ex H H1 → D.nx σ (upd H1 d (.dK (putK kvs (.inl i) v)))) : sDPut ta tb tv D σ H := hv H (Ex.refl H) _ fun H1 e1 => hd H1 e1 _ fun H2 e2 => hy H2 (e1.trans e2) _ fun H3 e3 =>
  ⟨d, _, rfl, .inl ⟨kvs, .inl i, ((e1.trans e2).trans e3) d _ ho, rfl, sz_lt hl, rfl⟩, k H3 ((e1.trans e2).trans e3)⟩
theorem q_dput {d : Addr} {i : Int} {kvs : List (Key × V)} (hv : Ev tv σ H v) (hd : Ev ta σ H (.ref d)) (hy : Ev tb σ H (.int i)) (ho : H d = some (.dK kvs)) (hl : kvs.length < 100000)
    (k : ∀ H1, Ex H H1 → tz D σ (upd H1 d (.dK (putK kvs (.inl i) v)))) : tSeq (sDPut ta tb tv) tz D σ H := s_dput (D := { D with nx := tz D }) hv hd hy ho hl k
/-- the key a new tuple -/
theorem s_dputT {d : Addr} {ks : List Key} {kvs : List (List Key × V)} (hv : Ev tv σ H v) (hd : Ev ta σ H (.ref d)) (hy : EvU tb σ H (ks.map kV)) (ho : H d = some (.dT kvs)) (hl : kvs.length < 100000)
    (k : ∀ H1, Ex H H1 → D.nx σ (upd H1 d (.dT (putK kvs ks v)))) : sDPut ta tb tv D σ H := hv H (Ex.refl H) _ fun H1 e1 => hd H1 e1 _ fun H2 e2 => hy H2 (e1.trans e2) _ fun p H3 _ e3 hp =>
  ⟨d, _, rfl, .inr ⟨kvs, ks, p, ((e1.trans e2).trans e3) d _ ho, rfl, hp, sz_lt hl, rfl⟩, k H3 ((e1.trans e2).trans e3)⟩
theorem s_newT {i : Nat} (k : ∀ p H1, H p = none → Ex H H1 → H1 p = some (.dT []) → D.nx (σ.set i (some (.ref p))) H1) : tAsg tDNewT (gName i) D σ H := fun p hp => k p _ hp (Ex.new hp) upd_same
theorem q_newT {i : Nat} (k : ∀ p H1, H p = none → Ex H H1 → H1 p = some (.dT []) → tz D (σ.set i (some (.ref p))) H1) : tSeq (tAsg tDNewT (gName i)) tz D σ H := s_newT (D := { D with nx := tz D }) k
theorem q_newK {i : Nat} (k : ∀ p H1, H p = none → Ex H H1 → H1 p = some (.dK []) → tz D (σ.set i (some (.ref p))) H1) : tSeq (tAsg tDNewK (gName i)) tz D σ H := fun p hp => k p _ hp (Ex.new hp) upd_same

/-! ### loops -/
theorem for_enum {a : Addr} {xs : List V} {tb : TS} (Pv : Nat → L2.St → Hp → Prop) (h0 : Pv 0 σ H) (hl : ∀ i σ H, i ≤ xs.length → Pv i σ H → SqL K H a xs)
    (hs : ∀ i x σ H T H1, xs[i]? = some x → Pv i σ H → H T = none → Ex H H1 → H1 T = some (.tup [.int (i : Nat), x]) → g (.ref T) σ H1 fun σ2 H2 => tb { D with nx := Pv (i + 1), ct := Pv (i + 1), bk := D.nx } σ2 H2) (hd : ∀ σ H, Pv xs.length σ H → D.nx σ H) :
    ∃ W : Nat → Nat → L2.St → Hp → Prop, (∃ m, W 0 m σ H) ∧ ∀ i m σ H, W i m σ H →
      ((Ite K a).stop i H ∧ D.nx σ H) ∨ ((Ite K a).go i H ∧ ∃ N : L2.St → Hp → Prop, (∀ σ' H', N σ' H' → ∃ m', m' < m ∧ W (i + 1) m' σ' H') ∧ ∀ x H', (Ite K a).yld i H x H' → g x σ H' fun σ2 H2 => tb { D with nx := N, ct := N, bk := D.nx } σ2 H2) := by
  refine ⟨fun i m σ H => m = xs.length - i ∧ i ≤ xs.length ∧ Pv i σ H, ⟨xs.length, by simp, Nat.zero_le _, h0⟩, ?_⟩
  rintro i m σ1 H1 ⟨em, hi, pw⟩
  have sq := hl i σ1 H1 hi pw
  rcases Nat.lt_or_ge i xs.length with lt | ge
  · refine Or.inr ⟨⟨xs, xs[i], sq, List.getElem?_eq_getElem lt⟩, Pv (i + 1), fun σ' H' pn => ⟨m - 1, by omega, by omega, lt, pn⟩, ?_⟩
    rintro _ _ ⟨T, x, rfl, fr, rfl, hx⟩
    exact hs i x σ1 H1 T _ (hx xs sq) pw fr (Ex.new fr) upd_same
  · have ei : i = xs.length := Nat.le_antisymm hi ge
    subst ei
    exact Or.inl ⟨⟨xs, sq, Nat.le_refl _⟩, hd σ1 H1 pw⟩
theorem s_forE {a : Addr} {xs : List V} {tl : TE} (h : Ev tl σ H (.ref a)) (hx : SqL K H a xs) (Pv : Nat → L2.St → Hp → Prop) (h0 : ∀ H1, Ex H H1 → Pv 0 σ H1) (hl : ∀ i σ' H', i ≤ xs.length → Pv i σ' H' → SqL K H' a xs)
    (hs : ∀ i x σ' H' T H1, xs[i]? = some x → Pv i σ' H' → H' T = none → Ex H' H1 → H1 T = some (.tup [.int (i : Nat), x]) → g (.ref T) σ' H1 fun σ2 H2 => tu { D with nx := Pv (i + 1), ct := Pv (i + 1), bk := D.nx } σ2 H2) (hd : ∀ σ' H', Pv xs.length σ' H' → D.nx σ' H') :
    tFor (iEnum K (tCons tl tNil)) g tu D σ H := h H (Ex.refl H) _ fun H1 e => ⟨a, xs, rfl, ex_l e hx, for_enum Pv (h0 H1 e) hl hs hd⟩
theorem q_forE {a : Addr} {xs : List V} {tl : TE} (h : Ev tl σ H (.ref a)) (hx : SqL K H a xs) (Pv : Nat → L2.St → Hp → Prop) (h0 : ∀ H1, Ex H H1 → Pv 0 σ H1) (hl : ∀ i σ' H', i ≤ xs.length → Pv i σ' H' → SqL K H' a xs)
    (hs : ∀ i x σ' H' T H1, xs[i]? = some x → Pv i σ' H' → H' T = none → Ex H' H1 → H1 T = some (.tup [.int (i : Nat), x]) → g (.ref T) σ' H1 fun σ2 H2 => tu { D with nx := Pv (i + 1), ct := Pv (i + 1), bk := tz D } σ2 H2) (hd : ∀ σ' H', Pv xs.length σ' H' → tz D σ' H') :
    tSeq (tFor (iEnum K (tCons tl tNil)) g tu) tz D σ H := s_forE (D := { D with nx := tz D }) h hx Pv h0 hl hs hd
theorem q_forTn {a : Addr} {xs : List V} {tl : TE} {j : Nat} (h : Ev tl σ H (.ref a)) (hx : SqT K H a xs) (Pv : Nat → L2.St → Hp → Prop) (h0 : ∀ H1, Ex H H1 → Pv 0 σ H1) (hl : ∀ i σ' H', i ≤ xs.length → Pv i σ' H' → SqT K H' a xs)
    (hs : ∀ i x σ' H', xs[i]? = some x → Pv i σ' H' → tu { D with nx := Pv (i + 1), ct := Pv (i + 1), bk := tz D } (σ'.set j (some x)) H') (hd : ∀ σ' H', Pv xs.length σ' H' → tz D σ' H') : tSeq (tFor (iTup K tl) (gName j) tu) tz D σ H :=
  q_forT h hx Pv h0 hl hs hd
/-- two names from a tuple -/
theorem g_two {i j : Nat} {p : Addr} {x y : V} {Q : L2.St → Hp → Prop} (h : H p = some (.tup [x, y])) (q : Q ((σ.set i (some x)).set j (some y)) H) : gTup K 2 (gCons (gName i) (gCons (gName j) gNil)) (.ref p) σ H Q :=
  ⟨p, [x, y], rfl, st_of h, rfl, x, [y], rfl, y, [], rfl, rfl, q⟩
end
/-! ### comprehensions -/
section
variable {K : PySem.W.Frag} {σ : L2.St} {H H' : Hp} {ta tb te tx tl : TE} {t u : TT} {x y z v : V} {g : TG}
/-- the pairs of an enumeration -/
theorem el_lcE {a : Addr} {xs : List V} {j1 j2 : Nat} {vs : List Nat} (f : Nat → Bool) (v : Nat → V) (h : Ev tl σ H (.ref a)) (hx : SqL K H a xs) (hz : xs.length ≤ 40000) (hw : ∀ x y, wipe (((wipe σ vs).set j1 (some x)).set j2 (some y)) vs = wipe σ vs)
    (ht : ∀ (i : Nat) (x : V) H1, Ex H H1 → xs[i]? = some x → EvT t (((wipe σ vs).set j1 (some (.int (i : Nat)))).set j2 (some x)) H1 (f i)) (he : ∀ (i : Nat) (x : V) H1, Ex H H1 → xs[i]? = some x → f i = true → Ev te (((wipe σ vs).set j1 (some (.int (i : Nat)))).set j2 (some x)) H1 (v i)) :
    EvL (tLc (iEnum K (tCons tl tNil)) (gTup K 2 (gCons (gName j1) (gCons (gName j2) gNil))) t te vs) σ H (given xs.length f v) := fun H0 e Q q => h H0 e _ fun H1 e1 => ⟨a, xs, rfl, ex_l (e.trans e1) hx, fun Dl hD => by
  refine ⟨fun i m H' => m = xs.length - i ∧ i ≤ xs.length ∧ Cw H1 f v Dl i H', ⟨xs.length, by simp, Nat.zero_le _, hD, Ex.new hD, upd_same⟩, ?_⟩
  rintro i m H2 ⟨em, hi, cw⟩
  have sq : SqL K H2 a xs := ex_l ((e.trans e1).trans cw.2.1) hx
  rcases Nat.lt_or_ge i xs.length with lt | ge
  · refine Or.inr ⟨⟨xs, xs[i], sq, List.getElem?_eq_getElem lt⟩, fun H' => Cw H1 f v Dl (i + 1) H', fun H' pn => ⟨m - 1, by omega, by omega, lt, pn⟩, ?_⟩
    rintro _ _ ⟨T, x, rfl, fr, rfl, hx2⟩
    refine g_two upd_same ⟨hw _ _, ?_⟩
    have cw2 : Cw H1 f v Dl i (upd H2 T (.tup [.int (i : Nat), x])) := ⟨cw.1, cw.2.1.trans (Ex.new fr), Ex.new fr Dl _ cw.2.2⟩
    exact cw_turn cw2 (by omega) (ht i x H1 (e.trans e1) (hx2 xs sq)) (fun hf => he i x H1 (e.trans e1) (hx2 xs sq) hf)
  · have ei : i = xs.length := Nat.le_antisymm hi ge
    subst ei
    exact Or.inl ⟨⟨xs, sq, Nat.le_refl _⟩, q Dl H2 (fresh_back e1 cw.1) (e1.trans cw.2.1) cw.2.2⟩⟩
/-- the items of a tuple -/
theorem el_lcT {a : Addr} {xs : List V} {j : Nat} {vs : List Nat} (f : Nat → Bool) (v : Nat → V) (h : Ev tl σ H (.ref a)) (hx : SqT K H a xs) (hz : xs.length ≤ 40000) (hw : ∀ x, wipe ((wipe σ vs).set j (some x)) vs = wipe σ vs)
    (ht : ∀ (i : Nat) (x : V) H1, Ex H H1 → xs[i]? = some x → EvT t ((wipe σ vs).set j (some x)) H1 (f i)) (he : ∀ (i : Nat) (x : V) H1, Ex H H1 → xs[i]? = some x → f i = true → Ev te ((wipe σ vs).set j (some x)) H1 (v i)) :
    EvL (tLc (iTup K tl) (gName j) t te vs) σ H (given xs.length f v) := fun H0 e Q q => h H0 e _ fun H1 e1 => ⟨a, rfl, ⟨xs, ex_t (e.trans e1) hx⟩, fun Dl hD =>
  lc_tup (xs := xs) (Cw H1 f v Dl) ⟨hD, Ex.new hD, upd_same⟩ (fun i H' _ p => ex_t ((e.trans e1).trans p.2.1) hx) (fun i x H' hi p => ⟨hw x, cw_turn p (by have := (List.getElem?_eq_some_iff.mp hi).1; omega) (ht i x H1 (e.trans e1) hi) (fun hf => he i x H1 (e.trans e1) hi hf)⟩)
    (fun H' p => q Dl H' (fresh_back e1 p.1) (e1.trans p.2.1) p.2.2)⟩
/-- the keys of a dict of ints, which is locked meanwhile -/
theorem el_lcK {d : Addr} {kvs : List (Key × V)} {j : Nat} {vs : List Nat} (f : Nat → Bool) (v : Nat → V) (ho : H d = some (.dK kvs)) (h : ∀ od, Ev tl σ (upd H d (.frz od (.dK kvs))) (.ref d)) (hz : kvs.length ≤ 40000)
    (hw : ∀ x, wipe ((wipe σ vs).set j (some x)) vs = wipe σ vs)
    (ht : ∀ (i : Nat) (k : Key) (w : V) od H1, Ex (upd H d (.frz od (.dK kvs))) H1 → kvs[i]? = some (k, w) → EvT t ((wipe σ vs).set j (some (kV k))) H1 (f i))
    (he : ∀ (i : Nat) (k : Key) (w : V) od H1, Ex (upd H d (.frz od (.dK kvs))) H1 → kvs[i]? = some (k, w) → f i = true → Ev te ((wipe σ vs).set j (some (kV k))) H1 (v i)) :
    EvL (tLockE (tLc (iKeys tl) (gName j) t te vs)) σ H (given kvs.length f v) := fun H0 e Q q => by
  refine ⟨d, .dK kvs, e d _ ho, True.intro, fun od => ?_⟩
  have el : Ex (upd H d (.frz od (.dK kvs))) (upd H0 d (.frz od (.dK kvs))) := fun b o hb => by
    by_cases q : b = d
    · rw [q] at hb ⊢
      rw [upd_same] at hb ⊢
      exact hb
    · rw [upd_ne q] at hb ⊢
      exact e b o hb
  refine h od _ el _ fun H1 e1 => ⟨d, od, rfl, Or.inl ⟨kvs, e1 d _ upd_same, fun Dl hD => ?_⟩⟩
  refine ⟨fun i m H' => m = kvs.length - i ∧ i ≤ kvs.length ∧ Cw H1 f v Dl i H', ⟨kvs.length, by simp, Nat.zero_le _, hD, Ex.new hD, upd_same⟩, ?_⟩
  rintro i m H2 ⟨em, hi, cw⟩
  have sq : H2 d = some (.frz od (.dK kvs)) := cw.2.1 d _ (e1 d _ upd_same)
  rcases Nat.lt_or_ge i kvs.length with lt | ge
  · refine Or.inr ⟨⟨sq, lt⟩, fun H' => Cw H1 f v Dl (i + 1) H', fun H' pn => ⟨m - 1, by omega, by omega, lt, pn⟩, ?_⟩
    rintro _ _ ⟨rfl, k, w, hk, rfl⟩
    exact ⟨hw _, cw_turn cw (by omega) (ht i k w od H1 (el.trans e1) hk) (fun hf => he i k w od H1 (el.trans e1) hk hf)⟩
  · have ei : i = kvs.length := Nat.le_antisymm hi ge
    subst ei
    have hDd : Dl ≠ d := fun z => by
      have q1 := e1 d _ (upd_same (H := H0) (o := .frz od (.dK kvs)))
      rw [z, q1] at hD
      cases hD
    refine Or.inl ⟨⟨sq, Nat.le_refl _⟩, sq, q Dl _ ?_ ?_ ?_⟩
    · have := fresh_back e1 hD
      rw [upd_ne hDd] at this
      exact this
    · intro b o hb
      by_cases z : b = d
      · rw [z] at hb ⊢
        rw [upd_same]
        exact (e d _ ho).symm.trans hb
      · rw [upd_ne z]
        exact cw.2.1 b o (e1 b o (by rw [upd_ne z]; exact hb))
    · rw [upd_ne hDd]
      exact cw.2.2
/-- .. of a dict whose keys are tuples: the key's own tuple -/
theorem el_lcKT {d : Addr} {kvs : List (List Key × V)} {j : Nat} {vs : List Nat} (f : Nat → Bool) (hf : ∀ i, i < kvs.length → f i = false) (ho : H d = some (.dT kvs)) (h : ∀ od, Ev tl σ (upd H d (.frz od (.dT kvs))) (.ref d)) (hz : kvs.length ≤ 40000)
    (hw : ∀ x, wipe ((wipe σ vs).set j (some x)) vs = wipe σ vs)
    (ht : ∀ (i : Nat) (k : List Key) (w : V) (b : Addr) od H1, Ex (upd H d (.frz od (.dT kvs))) H1 → kvs[i]? = some (k, w) → H1 b = some (.tup (k.map kV)) → EvT t ((wipe σ vs).set j (some (.ref b))) H1 (f i)) :
    EvL (tLockE (tLc (iKeys tl) (gName j) t te vs)) σ H [] := fun H0 e Q q => by
  refine ⟨d, .dT kvs, e d _ ho, True.intro, fun od => ?_⟩
  have el : Ex (upd H d (.frz od (.dT kvs))) (upd H0 d (.frz od (.dT kvs))) := fun b o hb => by
    by_cases q : b = d
    · rw [q] at hb ⊢
      rw [upd_same] at hb ⊢
      exact hb
    · rw [upd_ne q] at hb ⊢
      exact e b o hb
  refine h od _ el _ fun H1 e1 => ⟨d, od, rfl, Or.inr ⟨kvs, e1 d _ upd_same, fun Dl hD => ?_⟩⟩
  refine ⟨fun i m H' => m = kvs.length - i ∧ i ≤ kvs.length ∧ H1 Dl = none ∧ Ex H1 H' ∧ H' Dl = some (.lst []), ⟨kvs.length, by simp, Nat.zero_le _, hD, Ex.new hD, upd_same⟩, ?_⟩
  rintro i m H2 ⟨em, hi, cw⟩
  have sq : H2 d = some (.frz od (.dT kvs)) := cw.2.1 d _ (e1 d _ upd_same)
  rcases Nat.lt_or_ge i kvs.length with lt | ge
  · refine Or.inr ⟨⟨sq, lt⟩, fun H' => H1 Dl = none ∧ Ex H1 H' ∧ H' Dl = some (.lst []), fun H' pn => ⟨m - 1, by omega, by omega, lt, pn⟩, ?_⟩
    rintro _ HH ⟨rfl, k, w, b, hk, rfl, hb⟩
    refine ⟨hw _, ?_⟩
    refine ht i k w b od HH ((el.trans e1).trans cw.2.1) hk hb HH (Ex.refl HH) _ fun H3 e3 => ?_
    rw [hf i lt]
    exact ⟨cw.1, cw.2.1.trans e3, e3 Dl _ cw.2.2⟩
  · have ei : i = kvs.length := Nat.le_antisymm hi ge
    have hDd : Dl ≠ d := fun z => by
      have q1 := e1 d _ (upd_same (H := H0) (o := .frz od (.dT kvs)))
      rw [z, q1] at hD
      cases hD
    refine Or.inl ⟨⟨sq, ge⟩, sq, q Dl _ ?_ ?_ ?_⟩
    · have := fresh_back e1 hD
      rw [upd_ne hDd] at this
      exact this
    · intro b o hb
      by_cases z : b = d
      · rw [z] at hb ⊢
        rw [upd_same]
        exact (e d _ ho).symm.trans hb
      · rw [upd_ne z]
        exact cw.2.1 b o (e1 b o (by rw [upd_ne z]; exact hb))
    · rw [upd_ne hDd]
      exact cw.2.2
/-- each turn makes a new object -/
structure LcN (H : Hp) (Pel : Nat → Addr → Hp → Prop) (D : Addr) (i : Nat) (H' : Hp) : Prop where
  fr : H D = none
  ex : Ex H H'
  at_ : ∃ ps : List Addr, H' D = some (.lst (ps.map V.ref)) ∧ ps.length = i ∧ (∀ (j : Nat) (p : Addr), ps[j]? = some p → Pel j p H') ∧ ps.Nodup ∧ ∀ p ∈ ps, H p = none ∧ p ≠ D ∧ H' p ≠ none
theorem LcN.start {Pel : Nat → Addr → Hp → Prop} {D : Addr} (h : H D = none) : LcN H Pel D 0 (upd H D (.lst [])) :=
  ⟨h, Ex.new h, [], upd_same, rfl, fun j p e => by simp at e, List.nodup_nil, fun p hp => by simp at hp⟩
theorem LcN.turn {Pel : Nat → Addr → Hp → Prop} {D : Addr} {i : Nat} {σ2 : L2.St} (p : LcN H Pel D i H') (hi : i < 50000) (hsome : ∀ j q H1, Pel j q H1 → H1 q ≠ none) (hm : ∀ j q H1 H2, Ex H1 H2 → Pel j q H1 → Pel j q H2)
    (hst : ∀ j q H1 xs ys, Ex H H1 → H1 D = some (.lst xs) → q ≠ D → Pel j q H1 → Pel j q (upd H1 D (.lst ys))) (he : EvN te σ2 H' (Pel i)) :
    tYes σ2 H' fun b H3 => if b = true then te σ2 H3 fun y H4 => ∃ acc, H4 D = some (.lst acc) ∧ acc.length < sizeLine ∧ LcN H Pel D (i + 1) (upd H4 D (.lst (acc ++ [y]))) else LcN H Pel D (i + 1) H3 := by
  obtain ⟨fr, ex, ps, h1, h2, h3, h4, h5⟩ := p
  show te σ2 H' fun y H4 => ∃ acc, H4 D = some (.lst acc) ∧ acc.length < sizeLine ∧ LcN H Pel D (i + 1) (upd H4 D (.lst (acc ++ [y])))
  refine he H' (Ex.refl _) _ fun a H4 ha e4 hp => ⟨ps.map V.ref, e4 D _ h1, sz_lt (by rw [List.length_map]; omega), fr, Ex.mut (ex.trans e4) fr, ps ++ [a], ?_, ?_, ?_, ?_, ?_⟩
  · rw [upd_same, List.map_append]; rfl
  · rw [List.length_append, h2]; rfl
  · intro j q hq
    have hDn : H4 D = some (.lst (ps.map V.ref)) := e4 D _ h1
    have haD : a ≠ D := fun z => by rw [z, h1] at ha; cases ha
    rcases Nat.lt_or_ge j ps.length with lt | ge
    · rw [List.getElem?_append_left lt] at hq
      exact hst j q H4 _ _ (ex.trans e4) hDn (h5 q (List.mem_of_getElem? hq)).2.1 (hm j q H' H4 e4 (h3 j q hq))
    · rw [List.getElem?_append_right ge] at hq
      have ej : j - ps.length = 0 := by
        rcases Nat.eq_zero_or_pos (j - ps.length) with z | z
        · exact z
        · rw [List.getElem?_eq_none (by simp; omega)] at hq; cases hq
      rw [ej] at hq
      simp at hq
      subst hq
      have : j = i := by omega
      subst this
      exact hst j a H4 _ _ (ex.trans e4) hDn haD hp
  · rw [List.nodup_append]
    refine ⟨h4, List.nodup_cons.mpr ⟨by simp, List.nodup_nil⟩, ?_⟩
    intro x hx y hy
    simp at hy
    subst hy
    intro z
    subst z
    exact (h5 x hx).2.2 ha
  · intro q hq
    have haD : a ≠ D := fun z => by rw [z, h1] at ha; cases ha
    rcases List.mem_append.mp hq with hq | hq
    · obtain ⟨q1, q2, q3⟩ := h5 q hq
      refine ⟨q1, q2, ?_⟩
      rw [upd_ne q2]
      intro z
      cases hh : H' q with
      | none => exact q3 hh
      | some o => rw [e4 q o hh] at z; cases z
    · simp at hq
      subst hq
      refine ⟨fresh_back ex ha, haD, ?_⟩
      rw [upd_ne haD]
      exact hsome _ _ _ hp
/-- the list that such a comprehension gives -/
def LcOut (H : Hp) (Pel : Nat → Addr → Hp → Prop) (n : Nat) (D : Addr) (H' : Hp) : Prop :=
  ∃ ps : List Addr, H' D = some (.lst (ps.map V.ref)) ∧ ps.length = n ∧ (∀ (i : Nat) (p : Addr), ps[i]? = some p → Pel i p H') ∧ ps.Nodup ∧ ∀ p ∈ ps, H p = none ∧ p ≠ D
theorem LcN.out {H0 H1 : Hp} {Pel : Nat → Addr → Hp → Prop} {D : Addr} {n : Nat} (c : LcN H1 Pel D n H') (e : Ex H H1) : LcOut H Pel n D H' := by
  obtain ⟨fr, ex, ps, h1, h2, h3, h4, h5⟩ := c
  exact ⟨ps, h1, h2, h3, h4, fun p hp => ⟨fresh_back e (h5 p hp).1, (h5 p hp).2.1⟩⟩
theorem en_lcNL {xs : List V} {j : Nat} {vs : List Nat} (Pel : Nat → Addr → Hp → Prop) (h : EvL tl σ H xs) (hz : xs.length ≤ 40000) (hw : ∀ x, wipe ((wipe σ vs).set j (some x)) vs = wipe σ vs)
    (hsome : ∀ j q H1, Pel j q H1 → H1 q ≠ none) (hm : ∀ j q H1 H2, Ex H1 H2 → Pel j q H1 → Pel j q H2)
    (hst : ∀ D j q H1 xs ys, Ex H H1 → H D = none → H1 D = some (.lst xs) → q ≠ D → Pel j q H1 → Pel j q (upd H1 D (.lst ys)))
    (he : ∀ (i : Nat) (x : V) H1, Ex H H1 → xs[i]? = some x → EvN te ((wipe σ vs).set j (some x)) H1 (Pel i)) :
    EvN (tLc (iList K tl) (gName j) tYes te vs) σ H (LcOut H Pel xs.length) := fun H0 e Q q => h H0 e _ fun a H1 _ e1 hx =>
  ⟨a, rfl, ⟨xs, sq_of hx⟩, fun Dl hD => by
  refine ⟨fun i m H' => m = xs.length - i ∧ i ≤ xs.length ∧ LcN H1 Pel Dl i H', ⟨xs.length, by simp, Nat.zero_le _, LcN.start hD⟩, ?_⟩
  rintro i m H2 ⟨em, hi, cw⟩
  have sq : SqL K H2 a xs := sq_of (cw.ex a _ hx)
  rcases Nat.lt_or_ge i xs.length with lt | ge
  · refine Or.inr ⟨⟨xs, xs[i], sq, List.getElem?_eq_getElem lt⟩, fun H' => LcN H1 Pel Dl (i + 1) H', fun H' pn => ⟨m - 1, by omega, by omega, lt, pn⟩, ?_⟩
    rintro y HH ⟨rfl, hy⟩
    exact ⟨hw _, LcN.turn cw (by omega) hsome hm (fun j q H3 xs' ys ex3 h3 hq hp => hst Dl j q H3 xs' ys ((e.trans e1).trans ex3) (fresh_back (e.trans e1) hD) h3 hq hp) (he i y HH ((e.trans e1).trans cw.ex) (hy xs sq))⟩
  · have ei : i = xs.length := Nat.le_antisymm hi ge
    subst ei
    exact Or.inl ⟨⟨xs, sq, Nat.le_refl _⟩, q Dl H2 (fresh_back e1 cw.fr) (e1.trans cw.ex) (cw.out (H0 := H0) (e.trans e1))⟩⟩
theorem en_lcL {a : Addr} {xs : List V} {j : Nat} {vs : List Nat} (Pel : Nat → Addr → Hp → Prop) (h : Ev tl σ H (.ref a)) (hx : SqL K H a xs) (hz : xs.length ≤ 40000) (hw : ∀ x, wipe ((wipe σ vs).set j (some x)) vs = wipe σ vs)
    (hsome : ∀ j q H1, Pel j q H1 → H1 q ≠ none) (hm : ∀ j q H1 H2, Ex H1 H2 → Pel j q H1 → Pel j q H2)
    (hst : ∀ D j q H1 xs ys, Ex H H1 → H D = none → H1 D = some (.lst xs) → q ≠ D → Pel j q H1 → Pel j q (upd H1 D (.lst ys)))
    (he : ∀ (i : Nat) (x : V) H1, Ex H H1 → xs[i]? = some x → EvN te ((wipe σ vs).set j (some x)) H1 (Pel i)) :
    EvN (tLc (iList K tl) (gName j) tYes te vs) σ H (LcOut H Pel xs.length) := fun H0 e Q q => h H0 e _ fun H1 e1 =>
  ⟨a, rfl, ⟨xs, ex_l (e.trans e1) hx⟩, fun Dl hD => by
  refine ⟨fun i m H' => m = xs.length - i ∧ i ≤ xs.length ∧ LcN H1 Pel Dl i H', ⟨xs.length, by simp, Nat.zero_le _, LcN.start hD⟩, ?_⟩
  rintro i m H2 ⟨em, hi, cw⟩
  have sq : SqL K H2 a xs := ex_l ((e.trans e1).trans cw.ex) hx
  rcases Nat.lt_or_ge i xs.length with lt | ge
  · refine Or.inr ⟨⟨xs, xs[i], sq, List.getElem?_eq_getElem lt⟩, fun H' => LcN H1 Pel Dl (i + 1) H', fun H' pn => ⟨m - 1, by omega, by omega, lt, pn⟩, ?_⟩
    rintro y HH ⟨rfl, hy⟩
    exact ⟨hw _, LcN.turn cw (by omega) hsome hm (fun j q H3 xs' ys ex3 h3 hq hp => hst Dl j q H3 xs' ys ((e.trans e1).trans ex3) (fresh_back (e.trans e1) hD) h3 hq hp) (he i y HH ((e.trans e1).trans cw.ex) (hy xs sq))⟩
  · have ei : i = xs.length := Nat.le_antisymm hi ge
    subst ei
    exact Or.inl ⟨⟨xs, sq, Nat.le_refl _⟩, q Dl H2 (fresh_back e1 cw.fr) (e1.trans cw.ex) (cw.out (H0 := H0) (e.trans e1))⟩⟩
theorem en_lcR {ts : TA} {j : Nat} {vs : List Nat} {n : Int} (Pel : Nat → Addr → Hp → Prop) (h : EvA ts σ H [.int n]) (hn : 0 ≤ n ∧ n ≤ 40000) (hw : ∀ x, wipe ((wipe σ vs).set j (some x)) vs = wipe σ vs)
    (hsome : ∀ j q H1, Pel j q H1 → H1 q ≠ none) (hm : ∀ j q H1 H2, Ex H1 H2 → Pel j q H1 → Pel j q H2)
    (hst : ∀ D j q H1 xs ys, Ex H H1 → H D = none → H1 D = some (.lst xs) → q ≠ D → Pel j q H1 → Pel j q (upd H1 D (.lst ys)))
    (he : ∀ (i : Nat) H1, Ex H H1 → (i : Int) < n → EvN te ((wipe σ vs).set j (some (.int (0 + (i : Int))))) H1 (Pel i)) :
    EvN (tLc (iRng1 ts) (gName j) tYes te vs) σ H (LcOut H Pel n.toNat) := fun H0 e Q q => h H0 e _ fun H1 e1 =>
  ⟨n, rfl, by omega, by omega, fun Dl hD => by
  refine ⟨fun i m H' => m = n.toNat - i ∧ i ≤ n.toNat ∧ LcN H1 Pel Dl i H', ⟨n.toNat, by simp, Nat.zero_le _, LcN.start hD⟩, ?_⟩
  rintro i m H2 ⟨em, hi, cw⟩
  rcases Nat.lt_or_ge i n.toNat with lt | ge
  · refine Or.inr ⟨lt, fun H' => LcN H1 Pel Dl (i + 1) H', fun H' pn => ⟨m - 1, by omega, by omega, lt, pn⟩, ?_⟩
    rintro y HH ⟨rfl, rfl⟩
    exact ⟨hw _, LcN.turn cw (by omega) hsome hm (fun j q H3 xs' ys ex3 h3 hq hp => hst Dl j q H3 xs' ys ((e.trans e1).trans ex3) (fresh_back (e.trans e1) hD) h3 hq hp) (he i HH ((e.trans e1).trans cw.ex) (by omega))⟩
  · have ei : i = n.toNat := Nat.le_antisymm hi ge
    subst ei
    exact Or.inl ⟨Nat.le_refl _, q Dl H2 (fresh_back e1 cw.fr) (e1.trans cw.ex) (cw.out (H0 := H0) (e.trans e1))⟩⟩
end
end LKW

/-! The text by places; what the top has left. -/
namespace LKW
open PySem PySem.Spec PyProof.Rows L2 Evl
def topS (i : Nat) : Stmt := PySem.Challenge.pw_leastlog_k63_whole_fewest_keeps.main.body.getD i (.Pass ⟨0, 0, 0, 0⟩)
abbrev sPointsOf : Stmt := topS 4
abbrev NPointsOf : List Str := ["stretch", "found", "stop", "value"]
abbrev PPointsOf : List Str := ["stretch"]
theorem scPointsOf : FnScope NPointsOf PPointsOf (defScope sPointsOf) := ⟨rfl, rfl, rfl, by decide +kernel, rfl, by decide +kernel, by decide +kernel⟩
abbrev sNetworkInit : Stmt := inClass (topS 5) 0
abbrev NNetworkInit : List Str := ["self", "size", "node"]
abbrev PNetworkInit : List Str := ["self", "size"]
theorem scNetworkInit : FnScope NNetworkInit PNetworkInit (defScope sNetworkInit) := ⟨rfl, rfl, rfl, by decide +kernel, rfl, by decide +kernel, by decide +kernel⟩
abbrev sNetworkConnect : Stmt := inClass (topS 5) 1
abbrev NNetworkConnect : List Str := ["self", "start", "end", "bound"]
abbrev PNetworkConnect : List Str := ["self", "start", "end", "bound"]
theorem scNetworkConnect : FnScope NNetworkConnect PNetworkConnect (defScope sNetworkConnect) := ⟨rfl, rfl, rfl, by decide +kernel, rfl, by decide +kernel, by decide +kernel⟩
abbrev sNetworkNextNode : Stmt := inClass (topS 5) 2
abbrev NNetworkNextNode : List Str := ["self", "node", "number", "start", "end", "bound"]
abbrev PNetworkNextNode : List Str := ["self", "node", "number"]
theorem scNetworkNextNode : FnScope NNetworkNextNode PNetworkNextNode (defScope sNetworkNextNode) := ⟨rfl, rfl, rfl, by decide +kernel, rfl, by decide +kernel, by decide +kernel⟩
abbrev sNetworkReached : Stmt := inClass (topS 5) 3
abbrev NNetworkReached : List Str := ["self", "found", "waiting", "at", "node", "number", "other"]
abbrev PNetworkReached : List Str := ["self"]
theorem scNetworkReached : FnScope NNetworkReached PNetworkReached (defScope sNetworkReached) := ⟨rfl, rfl, rfl, by decide +kernel, rfl, by decide +kernel, by decide +kernel⟩
abbrev sNetworkPush : Stmt := inClass (topS 5) 4
abbrev NNetworkPush : List Str := ["self", "found", "node", "before", "number"]
abbrev PNetworkPush : List Str := ["self", "found"]
theorem scNetworkPush : FnScope NNetworkPush PNetworkPush (defScope sNetworkPush) := ⟨rfl, rfl, rfl, by decide +kernel, rfl, by decide +kernel, by decide +kernel⟩
abbrev sNetworkFill : Stmt := inClass (topS 5) 5
abbrev NNetworkFill : List Str := ["self", "found"]
abbrev PNetworkFill : List Str := ["self"]
theorem scNetworkFill : FnScope NNetworkFill PNetworkFill (defScope sNetworkFill) := ⟨rfl, rfl, rfl, by decide +kernel, rfl, by decide +kernel, by decide +kernel⟩
abbrev sSpreadNode : Stmt := topS 6
abbrev NSpreadNode : List Str := ["number"]
abbrev PSpreadNode : List Str := ["number"]
theorem scSpreadNode : FnScope NSpreadNode PSpreadNode (defScope sSpreadNode) := ⟨rfl, rfl, rfl, by decide +kernel, rfl, by decide +kernel, by decide +kernel⟩
abbrev sLostNode : Stmt := topS 7
abbrev NLostNode : List Str := ["number"]
abbrev PLostNode : List Str := ["number"]
theorem scLostNode : FnScope NLostNode PLostNode (defScope sLostNode) := ⟨rfl, rfl, rfl, by decide +kernel, rfl, by decide +kernel, by decide +kernel⟩
abbrev sConnectPoint : Stmt := topS 8
abbrev NConnectPoint : List Str := ["network", "stretch", "numbers", "point", "most", "value", "stop", "here", "operands", "operand"]
abbrev PConnectPoint : List Str := ["network", "stretch", "numbers", "point", "most"]
theorem scConnectPoint : FnScope NConnectPoint PConnectPoint (defScope sConnectPoint) := ⟨rfl, rfl, rfl, by decide +kernel, rfl, by decide +kernel, by decide +kernel⟩
abbrev sNetworkOf : Stmt := topS 9
abbrev NNetworkOf : List Str := ["stretch", "points", "point", "numbers", "network", "number"]
abbrev PNetworkOf : List Str := ["stretch", "points"]
theorem scNetworkOf : FnScope NNetworkOf PNetworkOf (defScope sNetworkOf) := ⟨rfl, rfl, rfl, by decide +kernel, rfl, by decide +kernel, by decide +kernel⟩
abbrev sLeastKeeps : Stmt := topS 10
abbrev NLeastKeeps : List Str := ["stretch", "points", "found", "keeps", "number", "value", "stop"]
abbrev PLeastKeeps : List Str := ["stretch"]
theorem scLeastKeeps : FnScope NLeastKeeps PLeastKeeps (defScope sLeastKeeps) := ⟨rfl, rfl, rfl, by decide +kernel, rfl, by decide +kernel, by decide +kernel⟩
abbrev sIsInteger : Stmt := topS 23
abbrev NIsInteger : List Str := ["thing"]
abbrev PIsInteger : List Str := ["thing"]
theorem scIsInteger : FnScope NIsInteger PIsInteger (defScope sIsInteger) := ⟨rfl, rfl, rfl, by decide +kernel, rfl, by decide +kernel, by decide +kernel⟩
abbrev sIsNew : Stmt := topS 24
abbrev NIsNew : List Str := ["thing", "places"]
abbrev PIsNew : List Str := ["thing", "places"]
theorem scIsNew : FnScope NIsNew PIsNew (defScope sIsNew) := ⟨rfl, rfl, rfl, by decide +kernel, rfl, by decide +kernel, by decide +kernel⟩
abbrev sAreSet : Stmt := topS 25
abbrev NAreSet : List Str := ["things", "places", "thing"]
abbrev PAreSet : List Str := ["things", "places"]
theorem scAreSet : FnScope NAreSet PAreSet (defScope sAreSet) := ⟨rfl, rfl, rfl, by decide +kernel, rfl, by decide +kernel, by decide +kernel⟩
abbrev sIsRow : Stmt := topS 26
abbrev NIsRow : List Str := ["thing", "places"]
abbrev PIsRow : List Str := ["thing", "places"]
theorem scIsRow : FnScope NIsRow PIsRow (defScope sIsRow) := ⟨rfl, rfl, rfl, by decide +kernel, rfl, by decide +kernel, by decide +kernel⟩
abbrev sPlacesIn : Stmt := topS 27
abbrev NPlacesIn : List Str := ["rows", "places", "position", "row"]
abbrev PPlacesIn : List Str := ["rows"]
theorem scPlacesIn : FnScope NPlacesIn PPlacesIn (defScope sPlacesIn) := ⟨rfl, rfl, rfl, by decide +kernel, rfl, by decide +kernel, by decide +kernel⟩
abbrev sCheckOut : Stmt := topS 28
abbrev NCheckOut : List Str := ["out", "places", "position", "thing"]
abbrev PCheckOut : List Str := ["out", "places"]
theorem scCheckOut : FnScope NCheckOut PCheckOut (defScope sCheckOut) := ⟨rfl, rfl, rfl, by decide +kernel, rfl, by decide +kernel, by decide +kernel⟩
abbrev sNeededBy : Stmt := topS 29
abbrev NNeededBy : List Str := ["row"]
abbrev PNeededBy : List Str := ["row"]
theorem scNeededBy : FnScope NNeededBy PNeededBy (defScope sNeededBy) := ⟨rfl, rfl, rfl, by decide +kernel, rfl, by decide +kernel, by decide +kernel⟩
abbrev sLastNeeds : Stmt := topS 30
abbrev NLastNeeds : List Str := ["rows", "out", "found", "position", "row", "value"]
abbrev PLastNeeds : List Str := ["rows", "out"]
theorem scLastNeeds : FnScope NLastNeeds PLastNeeds (defScope sLastNeeds) := ⟨rfl, rfl, rfl, by decide +kernel, rfl, by decide +kernel, by decide +kernel⟩
abbrev sStretchInit : Stmt := inClass (topS 31) 0
abbrev NStretchInit : List Str := ["self", "rows", "out", "position", "row"]
abbrev PStretchInit : List Str := ["self", "rows", "out"]
theorem scStretchInit : FnScope NStretchInit PStretchInit (defScope sStretchInit) := ⟨rfl, rfl, rfl, by decide +kernel, rfl, by decide +kernel, by decide +kernel⟩
abbrev sStretchStops : Stmt := inClass (topS 31) 4
abbrev NStretchStops : List Str := ["self", "place"]
abbrev PStretchStops : List Str := ["self"]
theorem scStretchStops : FnScope NStretchStops PStretchStops (defScope sStretchStops) := ⟨rfl, rfl, rfl, by decide +kernel, rfl, by decide +kernel, by decide +kernel⟩
abbrev sStretchIsValue : Stmt := inClass (topS 31) 5
abbrev NStretchIsValue : List Str := ["self", "thing"]
abbrev PStretchIsValue : List Str := ["self", "thing"]
theorem scStretchIsValue : FnScope NStretchIsValue PStretchIsValue (defScope sStretchIsValue) := ⟨rfl, rfl, rfl, by decide +kernel, rfl, by decide +kernel, by decide +kernel⟩
abbrev sStretchIsStop : Stmt := inClass (topS 31) 6
abbrev NStretchIsStop : List Str := ["self", "thing"]
abbrev PStretchIsStop : List Str := ["self", "thing"]
theorem scStretchIsStop : FnScope NStretchIsStop PStretchIsStop (defScope sStretchIsStop) := ⟨rfl, rfl, rfl, by decide +kernel, rfl, by decide +kernel, by decide +kernel⟩
abbrev sStretchCheckValue : Stmt := inClass (topS 31) 7
abbrev NStretchCheckValue : List Str := ["self", "thing"]
abbrev PStretchCheckValue : List Str := ["self", "thing"]
theorem scStretchCheckValue : FnScope NStretchCheckValue PStretchCheckValue (defScope sStretchCheckValue) := ⟨rfl, rfl, rfl, by decide +kernel, rfl, by decide +kernel, by decide +kernel⟩
abbrev sStretchCheckStop : Stmt := inClass (topS 31) 8
abbrev NStretchCheckStop : List Str := ["self", "thing"]
abbrev PStretchCheckStop : List Str := ["self", "thing"]
theorem scStretchCheckStop : FnScope NStretchCheckStop PStretchCheckStop (defScope sStretchCheckStop) := ⟨rfl, rfl, rfl, by decide +kernel, rfl, by decide +kernel, by decide +kernel⟩
abbrev sStretchOperands : Stmt := inClass (topS 31) 9
abbrev NStretchOperands : List Str := ["self", "value", "row"]
abbrev PStretchOperands : List Str := ["self", "value"]
theorem scStretchOperands : FnScope NStretchOperands PStretchOperands (defScope sStretchOperands) := ⟨rfl, rfl, rfl, by decide +kernel, rfl, by decide +kernel, by decide +kernel⟩
abbrev sStretchAsked : Stmt := inClass (topS 31) 10
abbrev NStretchAsked : List Str := ["self", "stop"]
abbrev PStretchAsked : List Str := ["self", "stop"]
theorem scStretchAsked : FnScope NStretchAsked PStretchAsked (defScope sStretchAsked) := ⟨rfl, rfl, rfl, by decide +kernel, rfl, by decide +kernel, by decide +kernel⟩
abbrev sStretchIsPresent : Stmt := inClass (topS 31) 11
abbrev NStretchIsPresent : List Str := ["self", "value", "stop"]
abbrev PStretchIsPresent : List Str := ["self", "value", "stop"]
theorem scStretchIsPresent : FnScope NStretchIsPresent PStretchIsPresent (defScope sStretchIsPresent) := ⟨rfl, rfl, rfl, by decide +kernel, rfl, by decide +kernel, by decide +kernel⟩
abbrev sStretchIsLive : Stmt := inClass (topS 31) 12
abbrev NStretchIsLive : List Str := ["self", "value", "stop"]
abbrev PStretchIsLive : List Str := ["self", "value", "stop"]
theorem scStretchIsLive : FnScope NStretchIsLive PStretchIsLive (defScope sStretchIsLive) := ⟨rfl, rfl, rfl, by decide +kernel, rfl, by decide +kernel, by decide +kernel⟩
abbrev sStretchPresent : Stmt := inClass (topS 31) 13
abbrev NStretchPresent : List Str := ["self", "stop", "value"]
abbrev PStretchPresent : List Str := ["self", "stop"]
theorem scStretchPresent : FnScope NStretchPresent PStretchPresent (defScope sStretchPresent) := ⟨rfl, rfl, rfl, by decide +kernel, rfl, by decide +kernel, by decide +kernel⟩
abbrev sPot : Stmt := topS 33
abbrev NPot : List Str := ["_law_script", "_law_k", "_law_cell"]
abbrev PPot : List Str := ["_law_script", "_law_k"]
theorem scPot : FnScope NPot PPot (defScope sPot) := ⟨rfl, rfl, rfl, by decide +kernel, rfl, by decide +kernel, by decide +kernel⟩
abbrev sDraw : Stmt := topS 34
abbrev NDraw : List Str := ["_law_pot_here", "_law_many", "_law_digit"]
abbrev PDraw : List Str := ["_law_pot_here", "_law_many"]
theorem scDraw : FnScope NDraw PDraw (defScope sDraw) := ⟨rfl, rfl, rfl, by decide +kernel, rfl, by decide +kernel, by decide +kernel⟩
abbrev sShuffled : Stmt := topS 35
abbrev NShuffled : List Str := ["_law_pot_here", "_law_things", "_law_pool", "_law_k"]
abbrev PShuffled : List Str := ["_law_pot_here", "_law_things"]
theorem scShuffled : FnScope NShuffled PShuffled (defScope sShuffled) := ⟨rfl, rfl, rfl, by decide +kernel, rfl, by decide +kernel, by decide +kernel⟩
abbrev sNames : Stmt := topS 36
abbrev NNames : List Str := ["_law_pot_here", "_law_many", "_law_factor", "_law_more", "_law_number"]
abbrev PNames : List Str := ["_law_pot_here", "_law_many"]
theorem scNames : FnScope NNames PNames (defScope sNames) := ⟨rfl, rfl, rfl, by decide +kernel, rfl, by decide +kernel, by decide +kernel⟩
abbrev sSome : Stmt := topS 37
abbrev NSome : List Str := ["_law_pot_here", "_law_there", "_law_most", "_law_many", "_law_k"]
abbrev PSome : List Str := ["_law_pot_here", "_law_there", "_law_most"]
theorem scSome : FnScope NSome PSome (defScope sSome) := ⟨rfl, rfl, rfl, by decide +kernel, rfl, by decide +kernel, by decide +kernel⟩
abbrev sRows : Stmt := topS 38
abbrev NRows : List Str := ["_law_pot_here", "_law_values", "_law_stops", "_law_others", "_law_names_here", "_law_there", "_law_found", "_law_words", "_law_word", "_law_name"]
abbrev PRows : List Str := ["_law_pot_here", "_law_values", "_law_stops", "_law_others"]
theorem scRows : FnScope NRows PRows (defScope sRows) := ⟨rfl, rfl, rfl, by decide +kernel, rfl, by decide +kernel, by decide +kernel⟩
abbrev sBook : Stmt := topS 39
abbrev NBook : List Str := ["_law_rows_here", "_law_out", "_law_book_here", "_law_place", "_law_row", "_law_value"]
abbrev PBook : List Str := ["_law_rows_here", "_law_out"]
theorem scBook : FnScope NBook PBook (defScope sBook) := ⟨rfl, rfl, rfl, by decide +kernel, rfl, by decide +kernel, by decide +kernel⟩
abbrev sIsThere : Stmt := topS 40
abbrev NIsThere : List Str := ["_law_book_here", "_law_value", "_law_stop"]
abbrev PIsThere : List Str := ["_law_book_here", "_law_value", "_law_stop"]
theorem scIsThere : FnScope NIsThere PIsThere (defScope sIsThere) := ⟨rfl, rfl, rfl, by decide +kernel, rfl, by decide +kernel, by decide +kernel⟩
abbrev sIsLive : Stmt := topS 41
abbrev NIsLive : List Str := ["_law_book_here", "_law_value", "_law_stop"]
abbrev PIsLive : List Str := ["_law_book_here", "_law_value", "_law_stop"]
theorem scIsLive : FnScope NIsLive PIsLive (defScope sIsLive) := ⟨rfl, rfl, rfl, by decide +kernel, rfl, by decide +kernel, by decide +kernel⟩
abbrev sLost : Stmt := topS 42
abbrev NLost : List Str := ["_law_book_here", "_law_kept", "_law_found", "_law_stop", "_law_value", "_law_parts", "_law_is_open", "_law_part"]
abbrev PLost : List Str := ["_law_book_here", "_law_kept"]
theorem scLost : FnScope NLost PLost (defScope sLost) := ⟨rfl, rfl, rfl, by decide +kernel, rfl, by decide +kernel, by decide +kernel⟩
abbrev sIsEnough : Stmt := topS 43
abbrev NIsEnough : List Str := ["_law_book_here", "_law_kept", "_law_gone", "_law_stop", "_law_values", "_law_value"]
abbrev PIsEnough : List Str := ["_law_book_here", "_law_kept"]
theorem scIsEnough : FnScope NIsEnough PIsEnough (defScope sIsEnough) := ⟨rfl, rfl, rfl, by decide +kernel, rfl, by decide +kernel, by decide +kernel⟩
abbrev sCandidates : Stmt := topS 44
abbrev NCandidates : List Str := ["_law_book_here", "_law_found", "_law_value", "_law_stop"]
abbrev PCandidates : List Str := ["_law_book_here"]
theorem scCandidates : FnScope NCandidates PCandidates (defScope sCandidates) := ⟨rfl, rfl, rfl, by decide +kernel, rfl, by decide +kernel, by decide +kernel⟩
abbrev sSubsets : Stmt := topS 45
abbrev NSubsets : List Str := ["_law_things", "_law_found", "_law_thing", "_law_some_here"]
abbrev PSubsets : List Str := ["_law_things"]
theorem scSubsets : FnScope NSubsets PSubsets (defScope sSubsets) := ⟨rfl, rfl, rfl, by decide +kernel, rfl, by decide +kernel, by decide +kernel⟩
abbrev sSmall : Stmt := topS 46
abbrev NSmall : List Str := ["_law_pot_here", "_law_values", "_law_stops"]
abbrev PSmall : List Str := ["_law_pot_here"]
theorem scSmall : FnScope NSmall PSmall (defScope sSmall) := ⟨rfl, rfl, rfl, by decide +kernel, rfl, by decide +kernel, by decide +kernel⟩
abbrev sRight : Stmt := topS 47
abbrev NRight : List Str := ["_law_rows_here", "_law_out", "_law_book_here", "_law_stretch", "_law_told", "_law_all_keeps", "_law_mine", "_law_kept", "_law_some_here", "_law_other", "_law_one", "_law_place"]
abbrev PRight : List Str := ["_law_rows_here", "_law_out"]
theorem scRight : FnScope NRight PRight (defScope sRight) := ⟨rfl, rfl, rfl, by decide +kernel, rfl, by decide +kernel, by decide +kernel⟩
abbrev sLaw : Stmt := topS 48
abbrev NLaw : List Str := ["_law_script", "_law_k", "_law_rows_here", "_law_out"]
abbrev PLaw : List Str := ["_law_script"]
theorem scLaw : FnScope NLaw PLaw (defScope sLaw) := ⟨rfl, rfl, rfl, by decide +kernel, rfl, by decide +kernel, by decide +kernel⟩
/-- a def that keeps a promise -/
structure Df (P : Program) (w : World) (K : PySem.W.Frag) (mg : Str → Option Value) (base : Heap) (x : Str) (ps : List Str) (k : Nat) (sp : Sp) where
  f : Addr
  fd : FuncData
  G : FnOk P w K mg base CX0 k f fd ps sp
  g : mg x = some (.ref f)
  kp : PySem.W.keepIn K (.ref f) = true
  b : Binds K fd ps []
/-- a method -/
structure Md (P : Program) (w : World) (K : PySem.W.Frag) (mg : Str → Option Value) (base : Heap) (C : Addr) (x : Str) (ps : List Str) (k : Nat) (sp : Sp) where
  f : Addr
  fd : FuncData
  G : FnOk P w K mg base CX0 k f fd ps sp
  M : Meth K C x f
  b : Binds K fd ps []
/-- a class by its __init__ -/
structure Mc (P : Program) (w : World) (K : PySem.W.Frag) (mg : Str → Option Value) (base : Heap) (C : Addr) (x : Str) (ps : List Str) (k : Nat) (sp : Sp) where
  f : Addr
  fd : FuncData
  G : FnOk P w K mg base CX0 k f fd ps sp
  M : Mk K C f
  g : mg x = some (.ref C)
  b : Binds K fd ps []
structure Txt (K : PySem.W.Frag) (mg : Str → Option Value) (CN CS : Addr) : Prop where
  clNetwork : Cls K CN
  nEdges : NoAttr K CN "edges"
  nFlows : NoAttr K CN "flows"
  nAt : NoAttr K CN "edges_at"
  clStretch : Cls K CS
  nVp : NoAttr K CS "value_places"
  nRows : NoAttr K CS "own_rows"
  nOut : NoAttr K CS "own_out"
  nSp : NoAttr K CS "stop_places"
  nNp : NoAttr K CS "need_places"
  gSOURCE : ∃ u, mg "SOURCE" = some u ∧ RelV (.int 0) u
  gSINK : ∃ u, mg "SINK" = some u ∧ RelV (.int 1) u
  gLEAF : ∃ u, mg "LEAF" = some u ∧ RelV (.str "leaf") u
  gSET : ∃ u, mg "SET" = some u ∧ RelV (.str "set") u
  gUSE : ∃ u, mg "USE" = some u ∧ RelV (.str "use") u
  gSTOP : ∃ u, mg "STOP" = some u ∧ RelV (.str "stop") u
  m_len : mg "len" = none
  m_range : mg "range" = none
  m_enumerate : mg "enumerate" = none
  m_isinstance : mg "isinstance" = none
  m_int : mg "int" = none
  m_bool : mg "bool" = none
  m_tuple : mg "tuple" = none
  m_str : mg "str" = none
  m_list : mg "list" = none
  m_all : mg "all" = none
  m_sorted : mg "sorted" = none
  m_abs : mg "abs" = none
  m_max : mg "max" = none
  m_min : mg "min" = none
  m_divmod : mg "divmod" = none
theorem pe_globE {X : Cx} {x : Str} {pos : Pos} {v : V} (hg : Gl X x) (h : ∃ u, X.mg x = some u ∧ RelV v u) (hd : (x == ("__debug__" : Str)) = false := by decide) : PE X (.Name x pos) (tC v) := by
  obtain ⟨u, h1, h2⟩ := h
  exact pe_glob hg h1 h2 hd
theorem hu65 {k : Nat} {A : Around} (r : Room k A) : A.units + 65 < cLine := by have := r.un; omega
/-- xs[i] of a list, ahead of xs[i] op= e -/
def rGetL (K : PySem.W.Frag) : V → V → Hp → VK → Prop := fun o i H Q => ∃ (p : Addr) (xs : List V) (j : Nat) (z : V), o = .ref p ∧ i = .int j ∧ SqL K H p xs ∧ xs[j]? = some z ∧ Q z H
theorem pget_list {X : Cx} : PGet X (rGetL X.K) := by
  intro pn s σ H o i ov iv Q I ro ri h
  obtain ⟨p, xs, j, z, e1, e2, hq, hz, q⟩ := h
  subst e1 e2
  cases ro
  obtain ⟨t, et⟩ := ri
  subst et
  obtain ⟨its, rr, pl, len⟩ := I.list hq
  obtain ⟨u, hu, ru⟩ := rr.get hz
  have hj : j < its.length := (List.getElem?_eq_some_iff.mp hu).1
  have hl := rr.length
  have n63 := line63
  exact wpAny_getItem_list pl.isList (Int.natCast_nonneg j) (by omega) (by simpa using hu) ⟨z, H, I, ru, q⟩
section
variable {Pg : Program} {wd : World} {Kf : PySem.W.Frag} {gl : Str → Option Value} {bs : Heap} {nm ql : Str} {sd : Stmt} {dvl : List V} {kwl : List (Str × V)} {af : Addr} {dat : FuncData} {Ns prm : List Str} {lev : Nat} {promise : Sp}
/-- a def that has defaults, all of whose parameters are given; its body by the plain words -/
theorem fnD_ok (W : FunD Kf nm ql (defArgs sd) (defBody sd) (defScope sd) dvl kwl af dat) (S : FnScope Ns prm (defScope sd)) (hlen : ∀ vs H Q E, promise vs H Q E → vs.length = prm.length)
    (hb : ∀ (cv : Value) (A : Around) (out : List Env) (s : Shared) (H : Hp) (vs : List V) (Q : VK) (E : XK),
      Room lev (A.deeper (envOfC ql (defScope sd) s.heap.objs.size af cv)) → promise vs H Q E →
      ∃ rd, PSs (cxOf CX0 Pg wd Kf gl bs Ns ql (defScope sd) af cv A out s H E).nox (defBody sd) rd ∧ rd { nx := fun _ H2 => Q .non H2, rt := Q } (start Ns vs) H) :
    FnOk Pg wd Kf gl bs CX0 (lev + 1) af dat prm promise :=
  W.ok S hlen fun cv A out s H vs Q E room ask =>
    let ⟨rd, is_, go⟩ := hb cv A out s H vs Q E room ask
    ⟨rd, is_.nox, go⟩
end
end LKW

/-! How rows, stretches, points lie in the heap. -/
namespace LKW
open PySem PySem.Spec PyProof.Rows L2 Evl

def TupI (H : Hp) (t : Addr) (ns : List Int) : Prop := H t = some (.tup (ns.map V.int))
theorem TupI.ex {H H' : Hp} {t : Addr} {ns : List Int} (h : TupI H t ns) (e : Ex H H') : TupI H' t ns := e t _ h
theorem TupI.sq {K : PySem.W.Frag} {H : Hp} {t : Addr} {ns : List Int} (h : TupI H t ns) : SqT K H t (ns.map V.int) := st_of h
def IsRow (H : Hp) (a : Addr) : LK.Row → Prop
  | .leaf v => H a = some (.tup [.str "leaf", .int v])
  | .set v l => ∃ t, H a = some (.tup [.str "set", .int v, .ref t]) ∧ TupI H t l
  | .use l => ∃ t, H a = some (.tup [.str "use", .ref t]) ∧ TupI H t l
  | .stop l => ∃ z t, H a = some (.tup [.str "stop", .str z, .ref t]) ∧ TupI H t l
theorem IsRow.ex {H H' : Hp} {a : Addr} {r : LK.Row} (h : IsRow H a r) (e : Ex H H') : IsRow H' a r := by
  cases r with
  | leaf v => exact e a _ h
  | set v l => obtain ⟨t, h1, h2⟩ := h; exact ⟨t, e a _ h1, h2.ex e⟩
  | use l => obtain ⟨t, h1, h2⟩ := h; exact ⟨t, e a _ h1, h2.ex e⟩
  | stop l => obtain ⟨z, t, h1, h2⟩ := h; exact ⟨z, t, e a _ h1, h2.ex e⟩
/-- rows by their tuples -/
def RowsBy (H : Hp) (as : List Addr) (rows : List LK.Row) : Prop := as.length = rows.length ∧ ∀ (i : Nat) (b : Addr) (r : LK.Row), as[i]? = some b → rows[i]? = some r → IsRow H b r
theorem RowsBy.ex {H H' : Hp} {as : List Addr} {rows : List LK.Row} (h : RowsBy H as rows) (e : Ex H H') : RowsBy H' as rows := ⟨h.1, fun i b r h1 h2 => (h.2 i b r h1 h2).ex e⟩
def RowsAt (H : Hp) (a : Addr) (rows : List LK.Row) : Prop := ∃ as : List Addr, H a = some (.lst (as.map V.ref)) ∧ RowsBy H as rows
theorem RowsAt.ex {H H' : Hp} {a : Addr} {rows : List LK.Row} (h : RowsAt H a rows) (e : Ex H H') : RowsAt H' a rows := let ⟨as, h1, h2⟩ := h; ⟨as, e a _ h1, h2.ex e⟩
theorem RowsBy.get {H : Hp} {as : List Addr} {rows : List LK.Row} (h : RowsBy H as rows) {i : Nat} {r : LK.Row} (hr : rows[i]? = some r) : ∃ b, as[i]? = some b ∧ IsRow H b r := by
  have lt := (List.getElem?_eq_some_iff.mp hr).1
  have lt2 : i < as.length := by rw [h.1]; exact lt
  exact ⟨as[i], List.getElem?_eq_getElem lt2, h.2 i _ r (List.getElem?_eq_getElem lt2) hr⟩
/-- an item of the list is a row's tuple -/
theorem RowsBy.item {H : Hp} {as : List Addr} {rows : List LK.Row} (h : RowsBy H as rows) {i : Nat} {x : V} (hx : (as.map V.ref)[i]? = some x) : ∃ b r, x = .ref b ∧ as[i]? = some b ∧ rows[i]? = some r ∧ IsRow H b r := by
  rw [List.getElem?_map] at hx
  cases e : as[i]? with
  | none => rw [e] at hx; cases hx
  | some b =>
    rw [e] at hx
    have lt : i < rows.length := by rw [← h.1]; exact (List.getElem?_eq_some_iff.mp e).1
    exact ⟨b, rows[i], (Option.some.inj hx).symm, rfl, List.getElem?_eq_getElem lt, h.2 i b _ e (List.getElem?_eq_getElem lt)⟩

def kvP (l : List (Int × Nat)) : List (Key × V) := l.map fun p => (Sum.inl p.1, V.int (p.2 : Nat))
theorem kvP_val (l : List (Int × Nat)) (v : Int) : valV (kvP l) (.inl v) = (l.lookup v).map fun n => V.int (n : Nat) := by
  induction l with
  | nil => rfl
  | cons p l ih =>
    obtain ⟨a, n⟩ := p
    show valV ((Sum.inl a, V.int (n : Nat)) :: kvP l) (.inl v) = _
    by_cases h : a = v
    · subst h
      rw [valV_pos (k := (Sum.inl a : Key)) rfl]
      simp
    · rw [valV_neg (k := (Sum.inl v : Key)) (fun q => h (Sum.inl.inj q)), ih, List.lookup_cons]
      have : (v == a) = false := by simp; exact fun q => h q.symm
      rw [this]
theorem kvP_some {l : List (Int × Nat)} {v : Int} (h : v ∈ l.map (·.1)) : (valV (kvP l) (.inl v)).isSome = true := by
  rw [kvP_val]
  cases q : l.lookup v with
  | none => exact absurd h (LK.lookup_none.mp q)
  | some n => rfl
theorem kvP_none {l : List (Int × Nat)} {v : Int} (h : v ∉ l.map (·.1)) : valV (kvP l) (.inl v) = none := by
  rw [kvP_val, LK.lookup_none.mpr h]; rfl
theorem kvP_snoc {l : List (Int × Nat)} {v : Int} {n : Nat} (h : v ∉ l.map (·.1)) : putK (kvP l) (.inl v) (.int (n : Nat)) = kvP (l ++ [(v, n)]) := by
  rw [putK_new _ (kvP_none h)]
  unfold kvP
  rw [List.map_append]
  rfl
theorem kvP_len (l : List (Int × Nat)) : (kvP l).length = l.length := List.length_map ..

structure Good (rows : List LK.Row) (out : List Int) : Prop where
  valid : LK.Valid rows
  outs : ∀ v ∈ out, v ∈ LK.order rows
  rl : rows.length ≤ 20
  nl : ∀ r ∈ rows, r.needs.length ≤ 3
  ol : out.length ≤ 3
  few : (LK.stops rows).length * (LK.order rows).length ≤ 12
theorem order_nonneg {rows : List LK.Row} (h : LK.Valid rows) : ∀ v ∈ LK.order rows, 0 ≤ v := by
  intro v hv
  obtain ⟨r, h1, h2⟩ := LK.plOf_row hv
  exact ((h _ r h1).val h2).1

def stF (vp ro oo sp np : Addr) : List (Str × V) := [("value_places", V.ref vp), ("own_rows", V.ref ro), ("own_out", V.ref oo), ("stop_places", V.ref sp), ("need_places", V.ref np)]
section
variable (vp ro oo sp np : Addr)
theorem lk_cons {f g : Str} {v : V} {r : List (Str × V)} (h : (g == f) = false) : List.lookup g ((f, v) :: r) = List.lookup g r := by
  rw [List.lookup_cons, h]
theorem lk_hit {f : Str} {v : V} {r : List (Str × V)} : List.lookup f ((f, v) :: r) = some v := by
  rw [List.lookup_cons]
  simp
theorem stF_vp : (stF vp ro oo sp np).lookup ("value_places" : Str) = some (V.ref vp) := lk_hit
theorem stF_ro : (stF vp ro oo sp np).lookup ("own_rows" : Str) = some (V.ref ro) := (lk_cons (f := "value_places") (g := "own_rows") (by decide +kernel)).trans (lk_hit)
theorem stF_oo : (stF vp ro oo sp np).lookup ("own_out" : Str) = some (V.ref oo) := (lk_cons (f := "value_places") (g := "own_out") (by decide +kernel)).trans ((lk_cons (f := "own_rows") (g := "own_out") (by decide +kernel)).trans (lk_hit))
theorem stF_sp : (stF vp ro oo sp np).lookup ("stop_places" : Str) = some (V.ref sp) := (lk_cons (f := "value_places") (g := "stop_places") (by decide +kernel)).trans ((lk_cons (f := "own_rows") (g := "stop_places") (by decide +kernel)).trans ((lk_cons (f := "own_out") (g := "stop_places") (by decide +kernel)).trans (lk_hit)))
theorem stF_np : (stF vp ro oo sp np).lookup ("need_places" : Str) = some (V.ref np) := (lk_cons (f := "value_places") (g := "need_places") (by decide +kernel)).trans ((lk_cons (f := "own_rows") (g := "need_places") (by decide +kernel)).trans ((lk_cons (f := "own_out") (g := "need_places") (by decide +kernel)).trans ((lk_cons (f := "stop_places") (g := "need_places") (by decide +kernel)).trans (lk_hit))))
theorem lk_nil {g : Str} : List.lookup g ([] : List (Str × V)) = none := rfl
theorem stF_no {m : Str} (h1 : (m == "value_places") = false) (h2 : (m == "own_rows") = false) (h3 : (m == "own_out") = false) (h4 : (m == "stop_places") = false) (h5 : (m == "need_places") = false) : (stF vp ro oo sp np).lookup m = none :=
  (lk_cons h1).trans ((lk_cons h2).trans ((lk_cons h3).trans ((lk_cons h4).trans ((lk_cons h5).trans lk_nil))))
end

def NeedIs (nk : List (Key × V)) (f : Int → Option Nat) : Prop := ∀ v : Int, valV nk (.inl v) = (f v).map fun n => V.int (n : Nat)
structure StA (C : Addr) (H : Hp) (x : Addr) (rows : List LK.Row) (out : List Int) (dx vp ro oo sp np : Addr) (nk : List (Key × V)) (as : List Addr) : Prop where
  good : Good rows out
  ins : H x = some (.ins C dx (stF vp ro oo sp np))
  vp : Rd H vp (.dK (kvP (LK.places rows)))
  ro : H ro = some (.lst (as.map V.ref))
  by_ : RowsBy H as rows
  oo : H oo = some (.lst (out.map V.int))
  sp : H sp = some (.lst ((LK.stops rows).map fun n => V.int (n : Nat)))
  np : Rd H np (.dK nk)
  need : NeedIs nk (LK.needAll rows out)
def StAt (C : Addr) (H : Hp) (x : Addr) (rows : List LK.Row) (out : List Int) : Prop := ∃ dx vp ro oo sp np nk as, StA C H x rows out dx vp ro oo sp np nk as
theorem StA.ex {C : Addr} {H H' : Hp} {x : Addr} {rows : List LK.Row} {out : List Int} {dx vp ro oo sp np : Addr} {nk : List (Key × V)} {as : List Addr} (h : StA C H x rows out dx vp ro oo sp np nk as) (e : Ex H H') : StA C H' x rows out dx vp ro oo sp np nk as :=
  ⟨h.good, e _ _ h.ins, rdx e h.vp, e _ _ h.ro, h.by_.ex e, e _ _ h.oo, e _ _ h.sp, rdx e h.np, h.need⟩
theorem StAt.ex {C : Addr} {H H' : Hp} {x : Addr} {rows : List LK.Row} {out : List Int} (h : StAt C H x rows out) (e : Ex H H') : StAt C H' x rows out :=
  let ⟨dx, vp, ro, oo, sp, np, nk, as, z⟩ := h; ⟨dx, vp, ro, oo, sp, np, nk, as, z.ex e⟩
/-- while the dict of places is locked -/
theorem rd_lock {H : Hp} {a d : Addr} {u w : HO} {o : Obj} (h : Rd H a u) (hd : H d = some w) (hw : u = w ∨ a ≠ d) : Rd (upd H d (.frz o w)) a u := by
  by_cases q : a = d
  · subst q
    rcases hw with rfl | hw
    · exact .inr ⟨o, upd_same⟩
    · exact absurd rfl hw
  · rcases h with h | ⟨o', h⟩
    · exact .inl (by rw [upd_ne q]; exact h)
    · exact .inr ⟨o', by rw [upd_ne q]; exact h⟩
theorem StA.lock {C : Addr} {H : Hp} {x : Addr} {rows : List LK.Row} {out : List Int} {dx vp ro oo sp np : Addr} {nk : List (Key × V)} {as : List Addr} (h : StA C H x rows out dx vp ro oo sp np nk as) (hv : H vp = some (.dK (kvP (LK.places rows)))) (o : Obj) :
    StA C (upd H vp (.frz o (.dK (kvP (LK.places rows))))) x rows out dx vp ro oo sp np nk as := by
  have ne : ∀ {a : Addr} {u : HO}, H a = some u → (∀ k, u ≠ .dK k) → (upd H vp (.frz o (.dK (kvP (LK.places rows))))) a = some u := fun {a u} ha hu => by
    rw [upd_ne (ne_of ha hv (hu _))]
    exact ha
  have rowk : RowsBy (upd H vp (.frz o (.dK (kvP (LK.places rows))))) as rows := by
    refine ⟨h.by_.1, fun i b r h1 h2 => ?_⟩
    have q := h.by_.2 i b r h1 h2
    cases r with
    | leaf v => exact ne q (by intro k z; cases z)
    | set v l => obtain ⟨t, q1, q2⟩ := q; exact ⟨t, ne q1 (by intro k z; cases z), ne q2 (by intro k z; cases z)⟩
    | use l => obtain ⟨t, q1, q2⟩ := q; exact ⟨t, ne q1 (by intro k z; cases z), ne q2 (by intro k z; cases z)⟩
    | stop l => obtain ⟨y, t, q1, q2⟩ := q; exact ⟨y, t, ne q1 (by intro k z; cases z), ne q2 (by intro k z; cases z)⟩
  refine ⟨h.good, ne h.ins (by intro k z; cases z), .inr ⟨o, upd_same⟩, ne h.ro (by intro k z; cases z), rowk, ne h.oo (by intro k z; cases z), ne h.sp (by intro k z; cases z), ?_, h.need⟩
  refine rd_lock h.np hv ?_
  by_cases q : np = vp
  · left
    subst q
    rcases h.np with z | ⟨o', z⟩
    · rw [hv] at z; cases z; rfl
    · rw [hv] at z; cases z
  · exact .inr q

/-- a point -/
def kPt (p : LK.Pt) : List Key := [.inl p.1, .inl (p.2 : Nat)]
theorem kPt_map (p : LK.Pt) : (kPt p).map kV = [.int p.1, .int (p.2 : Nat)] := rfl
theorem kPt_inj {p q : LK.Pt} (h : kPt p = kPt q) : p = q := by
  unfold kPt at h
  obtain ⟨a, b⟩ := p
  obtain ⟨c, d⟩ := q
  simp at h
  obtain ⟨h1, h2⟩ := h
  simp [h1]
  omega
def IsPt (H : Hp) (a : Addr) (p : LK.Pt) : Prop := H a = some (.tup [.int p.1, .int (p.2 : Nat)])
def PtsBy (H : Hp) (as : List Addr) (ps : List LK.Pt) : Prop := as.length = ps.length ∧ ∀ (i : Nat) (b : Addr) (p : LK.Pt), as[i]? = some b → ps[i]? = some p → IsPt H b p
theorem PtsBy.ex {H H' : Hp} {as : List Addr} {ps : List LK.Pt} (h : PtsBy H as ps) (e : Ex H H') : PtsBy H' as ps := ⟨h.1, fun i b r h1 h2 => e b _ (h.2 i b r h1 h2)⟩
def PtsAt (H : Hp) (a : Addr) (ps : List LK.Pt) : Prop := ∃ as : List Addr, H a = some (.lst (as.map V.ref)) ∧ PtsBy H as ps
theorem PtsAt.ex {H H' : Hp} {a : Addr} {ps : List LK.Pt} (h : PtsAt H a ps) (e : Ex H H') : PtsAt H' a ps := let ⟨as, h1, h2⟩ := h; ⟨as, e a _ h1, h2.ex e⟩
theorem PtsBy.get {H : Hp} {as : List Addr} {ps : List LK.Pt} (h : PtsBy H as ps) {i : Nat} {p : LK.Pt} (hr : ps[i]? = some p) : ∃ b, as[i]? = some b ∧ IsPt H b p := by
  have lt := (List.getElem?_eq_some_iff.mp hr).1
  have lt2 : i < as.length := by rw [h.1]; exact lt
  exact ⟨as[i], List.getElem?_eq_getElem lt2, h.2 i _ p (List.getElem?_eq_getElem lt2) hr⟩
theorem PtsBy.item {H : Hp} {as : List Addr} {ps : List LK.Pt} (h : PtsBy H as ps) {i : Nat} {x : V} (hx : (as.map V.ref)[i]? = some x) : ∃ b p, x = .ref b ∧ as[i]? = some b ∧ ps[i]? = some p ∧ IsPt H b p := by
  rw [List.getElem?_map] at hx
  cases e : as[i]? with
  | none => rw [e] at hx; cases hx
  | some b =>
    rw [e] at hx
    have lt : i < ps.length := by rw [← h.1]; exact (List.getElem?_eq_some_iff.mp e).1
    exact ⟨b, ps[i], (Option.some.inj hx).symm, rfl, List.getElem?_eq_getElem lt, h.2 i b _ e (List.getElem?_eq_getElem lt)⟩
theorem PtsBy.snoc {H : Hp} {as : List Addr} {ps : List LK.Pt} (h : PtsBy H as ps) {b : Addr} {p : LK.Pt} (hb : IsPt H b p) : PtsBy H (as ++ [b]) (ps ++ [p]) := by
  refine ⟨by rw [List.length_append, List.length_append, h.1]; rfl, fun i c q h1 h2 => ?_⟩
  rcases Nat.lt_or_ge i as.length with lt | ge
  · rw [List.getElem?_append_left lt] at h1
    rw [List.getElem?_append_left (by rw [← h.1]; exact lt)] at h2
    exact h.2 i c q h1 h2
  · rw [List.getElem?_append_right ge] at h1
    rw [List.getElem?_append_right (by rw [← h.1]; exact ge)] at h2
    have e : i - as.length = 0 := by
      rcases Nat.eq_zero_or_pos (i - as.length) with z | z
      · exact z
      · rw [List.getElem?_eq_none (by simp; omega)] at h1; cases h1
    rw [e] at h1
    rw [← h.1, e] at h2
    simp at h1 h2
    subst h1 h2
    exact hb
theorem PtsBy.append {H : Hp} {as bs : List Addr} {ps qs : List LK.Pt} (h : PtsBy H as ps) (k : PtsBy H bs qs) : PtsBy H (as ++ bs) (ps ++ qs) := by
  refine ⟨by rw [List.length_append, List.length_append, h.1, k.1], fun i c q h1 h2 => ?_⟩
  rcases Nat.lt_or_ge i as.length with lt | ge
  · rw [List.getElem?_append_left lt] at h1
    rw [List.getElem?_append_left (by rw [← h.1]; exact lt)] at h2
    exact h.2 i c q h1 h2
  · rw [List.getElem?_append_right ge] at h1
    rw [List.getElem?_append_right (by rw [← h.1]; exact ge), ← h.1] at h2
    exact k.2 _ c q h1 h2
end LKW

/-! A dict comprehension whose keys are tuples, over the pairs of an enumeration. -/
namespace LKW
open PySem PySem.Spec PyProof.Rows L2 Evl

/-- D[u] = r by a comprehension, the key a tuple -/
theorem tupSet {X : Cx} {pn : List (Addr × Obj)} {σ : L2.St} {H : Hp} {s : Shared} {E : Value → Shared → Prop} {D b : Addr} {kvs : List (List Key × V)} {k : List Key} {v : V} {r : Value} {Q : Unit → Shared → Prop} (hu : X.A.units + 1 < cLine) (I : Inv X pn σ H s)
    (hD : H D = some (.dT kvs)) (hz : kvs.length < sizeLine) (hb : H b = some (.tup (k.map kV))) (rv : RelV v r) (go : ∀ s1, Inv X pn σ (upd H D (.dT (putK kvs k v))) s1 → Q () s1) : wpAny (model X.prog X.w) X.A (dictSet D (.ref b) r) Q E s := by
  obtain ⟨z, hd, xs, rel, dd⟩ := dt_of I.hok hD
  have len1 : xs.length ≤ sizeLine := by rw [← Paired.length rel]; exact z
  have len2 : (putK kvs k v).length ≤ sizeLine := by have := length_putK kvs k v; omega
  refine wpAny_dictSet_heap (hsz := len1) (show X.A.units < cLine by omega) (key_of I.hok hb) dd fun g dg sb => go _ ?_
  obtain ⟨ob, es, ep, q1, q2, q3, q4, _, q5⟩ := dg
  refine d_write I (by rw [hD]; exact True.intro) sb ⟨ob, q1⟩ ⟨len2, hd, _, (rel.put k hb rv).keeps fun c ys ec => ?_, ob, es, ep, q1, q2, q3, q4, q5⟩
  rw [upd_ne (ne_of ec hD (by intro y; cases y))]
  exact ec

abbrev Blks (X : Cx) (scope : Scope) (R : Cx → Prop) : Prop :=
  ∀ (s : Shared) (H : Hp) (C : Addr) (cl : List (Str × Addr)) (fp : List Addr), R (X.blk s H scope (compEnvC scope cl C X.env) fp)

def tDcT (wi : TI) (g : TG) (tk tv : TE) (vs : List Nat) : TE := fun σ H Q => wi σ H fun J HA => ∀ D, HA D = none →
  ∃ W : Nat → Nat → Hp → Prop, (∃ m, W 0 m (upd HA D (.dT []))) ∧ ∀ i m HB, W i m HB →
    ((J.stop i HB ∧ Q (.ref D) HB) ∨ (J.go i HB ∧ ∃ Nx : Hp → Prop, (∀ HC, Nx HC → ∃ m2, m2 < m ∧ W (i + 1) m2 HC) ∧
      ∀ x HC, J.yld i HB x HC → g x (wipe σ vs) HC fun σ2 HD => wipe σ2 vs = wipe σ vs ∧
        tk σ2 HD fun y HE => tv σ2 HE fun z HF => ∃ kvs k b, y = .ref b ∧ HF b = some (.tup (k.map kV)) ∧ HF D = some (.dT kvs) ∧ kvs.length < sizeLine ∧ Nx (upd HF D (.dT (putK kvs k z)))))

section
variable {X : Cx}
theorem dcT_core {pn : List (Addr × Obj)} {s : Shared} {σ : L2.St} {H : Hp} {Q : VK} {kx vx tg iter : Expr} {scope : Scope} {own : List (Str × Nat)} {pos pos2 : Pos} {wi : TI} {g : TG} {tk tv : TE} {use : Option (Value → Sem Unit)} {Qf : Value → Shared → Prop}
    (hu : X.A.units + 1 < cLine) (calm : X.calm = true) (nd : X.N.Nodup) (I : Inv X pn σ H s) (hi : PI X tg iter wi) (ok : BlkOk X.N X.env.scope scope own)
    (hg : Blks X scope fun Y => PG Y tg g) (hk : Blks X scope fun Y => PE Y kx tk) (hv : Blks X scope fun Y => PE Y vx tv) (hs : ∀ x, foldedSetIterable iter X.env x = pure x)
    (rd : tDcT wi g tk tv (own.map (·.2)) σ H Q)
    (out : ∀ D C s1 m HZ, Inv X pn σ HZ s1 → Q (.ref D) HZ → s1.heap.Ns C m → FpOk X pn HZ C → compPost (model X.prog X.w) X.A X.xe use Qf (.ref D) C (.ok .next) s1) :
    wpAny (model X.prog X.w) X.A (comprehension (.DictComp kx vx [⟨tg, iter, [], 0⟩] scope pos) scope X.env pos2 newDict false (eval iter X.env) use) Qf X.xe s := by
  have caught : ∀ y ∈ scope.names, y.2 = .free → ∃ c, X.env.cells.lookup y.1 = some c := fun y hy e =>
    (ok.free y hy e).elim (fun z => I.ok.has _ (.inl z)) fun z => I.ok.has _ (.inr z)
  refine wpAny_comprehension_free (use := use) rfl hs (closure_ok caught) ok.kind (fun y hy e => by rw [ok.uniq y hy, e])
    (thn (hi.run pn s σ H _ I rd) fun xv s1 hx => thn hx fun itv s2 h2 => ?_)
  obtain ⟨it, fp, tn, J, HA, eit, IA, TT, stA, fA, q⟩ := h2
  subst eit
  refine wpAny_newObj_type (newEnv_comp ?_)
  generalize hD : s2.heap.objs.size = D
  have freshD : HA D = none := IA.hok.fresh (Nat.le_of_eq hD)
  obtain ⟨W, ⟨m0, w0⟩, turn⟩ := q D freshD
  generalize es3 : ({ s2 with heap := s2.heap.push { cls := .type "dict", data := .dict #[] } } : Shared) = s3
  have I3 : Inv X pn σ (upd HA D (.dT [])) s3 := by
    rw [← es3]
    refine IA.laid (t' := s2.toks) (fun b o e => Heap.get?_push_of_some _ e) (Nat.le_of_eq hD) ?_
    rw [← hD]
    exact dt_empty s2.heap IA.big
  have heap3 : s3.heap = s2.heap.push { cls := .type "dict", data := .dict #[] } := by rw [← es3]
  have below : ∀ b ∈ fp, b < s2.heap.objs.size := fun b hb => by
    obtain ⟨o, e, _⟩ := TT.obj _ _ stA b hb
    exact Heap.lt_size e
  have fp3 : ∀ b ∈ fp, FpOk X pn (upd HA D (.dT [])) b ∧ b < s3.heap.objs.size := fun b hb => by
    have lt := below b hb
    refine ⟨⟨?_, (fA b hb).2⟩, by rw [heap3, Heap.size_push]; exact Nat.lt_succ_of_lt lt⟩
    rw [upd_ne (by rw [← hD]; exact Nat.ne_of_lt lt)]
    exact (fA b hb).1
  have st3 : tn 0 s3.heap := TT.keep _ _ _ stA fun b _ o e => by rw [heap3]; exact Heap.get?_push_of_some _ e
  have I4 := block_start I3 ok nd fp3
  show codeAny _ _ (.compStart (.DictComp kx vx [⟨tg, iter, [], 0⟩] scope pos) 0 (.ref it) (.ref D) (compEnvC scope (cellsFrom (s3.heap.objs.size + 1) scope.names (cloFrom X.env.cells scope.names [])) s3.heap.objs.size X.env)) (compPost (model X.prog X.w) X.A X.xe use Qf (.ref D) s3.heap.objs.size) { s3 with heap := pushCells (s3.heap.push { cls := .type "dict", data := .dict #[] }) scope.names }
  generalize eC : s3.heap.objs.size = C at I4 ⊢
  generalize ecl : cellsFrom (C + 1) scope.names (cloFrom X.env.cells scope.names []) = cl at I4 ⊢
  have pg := hg s3 (upd HA D (.dT [])) C cl fp
  have pk := hk s3 (upd HA D (.dT [])) C cl fp
  have pv := hv s3 (upd HA D (.dT [])) C cl fp
  have fpNone : ∀ b ∈ fp, (upd HA D (.dT [])) b = none := fun b hb => (fp3 b hb).1.1
  generalize ece : compEnvC scope cl C X.env = ce at I4 pg pk pv ⊢
  have loc : ce.locals = C := by rw [← ece]; rfl
  generalize eH3 : upd HA D (.dT []) = H3 at I3 I4 pg pk pv w0 fpNone fp3
  generalize es4 : ({ s3 with heap := pushCells (s3.heap.push { cls := .type "dict", data := .dict #[] }) scope.names } : Shared) = s4 at I4 ⊢
  have st4 : tn 0 s4.heap := TT.keep _ _ _ st3 fun b _ o e => by rw [← es4]; exact pushCells_keeps _ _ _ _ (Heap.get?_push_of_some _ e)
  have still : ∀ {σ1 : L2.St} {H1 : Hp} {t1 : Shared}, Inv (X.blk s3 H3 scope ce fp) [] σ1 H1 t1 → (∀ b ∈ fp, H1 b = none) → ∀ b ∈ fp, FpOk (X.blk s3 H3 scope ce fp) [] H1 b := fun {σ1 H1 t1} J1 hn b hb =>
    ⟨hn b hb, (J1.ok.exf b hb).1, J1.ok.exfs b hb, .inl hb, fun x c e => (J1.ok.exf b hb).2 x c e, fun p hp => absurd (show p ∈ ([] : List (Addr × Obj)) ++ [] from hp) (by simp)⟩
  have loop : codeAny (model X.prog X.w) X.A (.compLoop (.DictComp kx vx [⟨tg, iter, [], 0⟩] scope pos) 0 (.ref it) (.ref D) ce) (compPost (model X.prog X.w) X.A X.xe use Qf (.ref D) C) s4 := by
    refine compLoop_anyD (fun n t => ∃ i H1, Inv (X.blk s3 H3 scope ce fp) [] (wipe σ (own.map (·.2))) H1 t ∧ tn i t.heap ∧ (∀ b ∈ fp, H1 b = none) ∧ W i n H1) ?_ m0 ⟨0, H3, I4, st4, fpNone, w0⟩
    rintro n s5 ⟨i, H5, I5, st5, no5, w5⟩
    rcases turn i n H5 w5 with ⟨stop, fin⟩ | ⟨go, Nx, hNx, step⟩
    · have dn := TT.done (X.blk s3 H3 scope ce fp) rfl rfl rfl calm i [] s5 _ H5 (fun _ _ => False) I5 (still I5 no5) st5 stop
      refine thnF dn fun r s6 ⟨er, I6⟩ => ?_
      subst er
      have I7 : Inv X pn σ H5 s6 := I3.call' (ch := fp) I6.os I6.base I6.hok I6.bare fun b hb => ⟨(fp3 b hb).1.2.2.2.1, (fp3 b hb).1.2.1, (fp3 b hb).1.2.2.2.2.1, (fp3 b hb).1.2.2.2.2.2⟩
      have noC : H5 C = none := by
        have z : H5 ce.locals = none := I6.free
        rw [loc] at z
        exact z
      obtain ⟨m, hn, _⟩ := I6.loc
      have hn2 : s6.heap.Ns ce.locals m := hn
      rw [loc] at hn2
      exact out D C s6 m H5 I7 fin hn2 (I3.fpOk (Nat.le_of_eq eC) noC)
    · have im := TT.item (X.blk s3 H3 scope ce fp) rfl rfl rfl calm i [] s5 _ H5 (fun _ _ => False) I5 (still I5 no5) st5 go
      refine thnF im fun r s6 ⟨u, er, h6⟩ => ?_
      subst er
      refine thnF h6 fun _ s7 ⟨x, H7, I7, r7, y7, st7, no7⟩ => ?_
      have I7p := I7.pinned (still I7 no7) (TT.obj _ _ st7)
      refine thnF (pg.run _ s7 _ H7 x u _ I7p r7 (step x H7 y7)) fun _ s8 ⟨σ8, H8, I8, ew, q8⟩ => ?_
      refine thnF ((pts_nil (X := X.blk s3 H3 scope ce fp)).run _ s8 σ8 H8 (fun b HZ => b = true ∧ HZ = H8) I8 ⟨rfl, rfl⟩) fun b s9 ⟨H9, I9, eb, e9⟩ => ?_
      subst eb e9
      simp only [if_true]
      refine thnF (pk.run _ s9 σ8 _ _ I9 q8) fun z s10 ⟨yk, HK, IK, rk, qk⟩ => ?_
      refine thnF (pv.run _ s10 σ8 HK _ IK qk) fun z2 s11 ⟨yv, HV, IV, rv, kvs, k, b, ek, hb, hDd, hz, nx⟩ => ?_
      subst ek
      cases (show z = Value.ref b from rk)
      refine tupSet (X := X.blk s3 H3 scope ce fp) hu IV hDd hz hb rv fun s12 I12 => ?_
      obtain ⟨m2, lt2, w2⟩ := hNx _ nx
      have pin2 : ∀ c ∈ fp, ∀ o, s7.heap.get? c = some o → s12.heap.get? c = some o ∧ (upd HV D (.dT (putK kvs k yv))) c = none := fun c hc o e =>
        let w := I12.pin (c, o) (List.mem_append_right _ (List.mem_append_right _ (mem_pinsAt hc e)))
        ⟨w.1, w.2.1⟩
      have lw : (wipe σ (own.map (·.2))).length = σ8.length := by rw [← ew, wipe_length]
      refine ⟨m2, lt2, i + 1, _, (I12.unpinned (pins := [])).weak lw (fun j v e => ?_), TT.keep _ _ _ st7 fun c hc o e => (pin2 c hc o e).1, fun c hc => ?_, w2⟩
      · rw [← ew] at e
        exact (wipe_some e).1
      · obtain ⟨o, e, _⟩ := TT.obj _ _ st7 c hc
        exact (pin2 c hc o e).2
  exact codeAny_compStart_dict loop (TT.self X.A 0 _ _ _ st4 loop)
/-- {k: v for target in iter}, the keys tuples -/
theorem pe_dcT {kx vx tg iter : Expr} {scope : Scope} {own : List (Str × Nat)} {pos : Pos} {wi : TI} {g : TG} {tk tv : TE} (hu : X.A.units + 1 < cLine) (calm : X.calm = true) (nd : X.N.Nodup) (hi : PI X tg iter wi) (ok : BlkOk X.N X.env.scope scope own)
    (hg : Blks X scope fun Y => PG Y tg g) (hk : Blks X scope fun Y => PE Y kx tk) (hv : Blks X scope fun Y => PE Y vx tv) (hs : ∀ x, foldedSetIterable iter X.env x = pure x := by intro _; rfl) :
    PE X (.DictComp kx vx [⟨tg, iter, [], 0⟩] scope pos) (tDcT wi g tk tv (own.map (·.2))) := by
  refine ⟨fun pn s σ H Q I rd => ?_⟩
  rw [arm_eval_DictComp]
  refine dcT_core hu calm nd I hi ok hg hk hv hs rd fun D C s1 m HZ J qz hn fo => ⟨m, hn, fun h2 sb => ?_⟩
  obtain ⟨g0, g1, g2, g3, g4, g5⟩ := fo
  exact ⟨.ref D, HZ, J.turned (t' := s1.toks) (fun b o hb e => (sb.2 b hb).trans e) g0 g1 g3 g4 g5, rfl, qz⟩
/-- y = {k: v for target in iter} on one line, y a local name: stored in the comprehension's own frame -/
theorem ps_setDcT {i : Nat} {y : Str} {py : Pos} {kx vx tg iter : Expr} {scope : Scope} {own : List (Str × Nat)} {pos spos : Pos} {wi : TI} {g : TG} {tk tv : TE} (hu : X.A.units + 1 < cLine) (calm : X.calm = true) (nd : X.N.Nodup)
    (hy : X.N[i]? = some y) (hyl : X.env.scope.names.lookup y = some .local) (hsw : swapsWith (.DictComp kx vx [⟨tg, iter, [], 0⟩] scope pos) (some (.Name y py)) spos.line X.env = pure true) (hi : PI X tg iter wi) (ok : BlkOk X.N X.env.scope scope own)
    (hg : Blks X scope fun Y => PG Y tg g) (hk : Blks X scope fun Y => PE Y kx tk) (hv : Blks X scope fun Y => PE Y vx tv) (hs : ∀ x, foldedSetIterable iter X.env x = pure x := by intro _; rfl) :
    PS X (.Assign [.Name y py] (.DictComp kx vx [⟨tg, iter, [], 0⟩] scope pos) spos) (tAsg (tDcT wi g tk tv (own.map (·.2))) (gName i)) := by
  refine ⟨fun pn s σ H D I rd => ?_⟩
  rw [exec_Assign_Name_used _ _ _ _ hsw]
  refine wpAny_bind (wpAny_standAt (wpAny_bind ?_))
  show wpAny _ X.A (do let _ ← comprehension (.DictComp kx vx [⟨tg, iter, [], 0⟩] scope pos) scope X.env (firstIterPos [⟨tg, iter, [], 0⟩] pos) newDict false (eval iter X.env) (some (assign (.Name y py) X.env))) _ _ s
  have rd2 : tDcT wi g tk tv (own.map (·.2)) σ H (fun x H1 => gName i x σ H1 D.nx) := rd
  refine wpAny_bind (thn (dcT_core (Qf := fun _ t => SP X pn D .next t) hu calm nd I hi ok hg hk hv hs rd2 fun L C t m HZ J qz hn fo => ?_) fun _ t hq => wpAny_pure (wpAny_pure hq))
  show wpAny _ _ (assign (.Name y py) X.env (.ref L)) _ _ _
  refine wpAny_assign_Name (store_ok2 (v := V.ref L) J nd hy (.inl hyl) rfl (fun t2 J2 ⟨a, sb, ha⟩ => ?_) (.inr hyl))
  obtain ⟨g0, g1, g2, g3, g4, g5⟩ := fo
  have apart : C ≠ a := ha.elim (fun z => by rw [z]; exact g1) fun z e => g4 y a z e.symm
  exact ⟨m, hn.sameBut sb apart, fun h3 sb3 => ⟨_, HZ, J2.turned (t' := t2.toks) (fun b o hb e => (sb3.2 b hb).trans e) g0 g1 g3 g4 g5, qz⟩⟩
theorem swd_true {kx vx : Expr} {gs : List Comprehension} {scope : Scope} {pos py : Pos} {y : Str} {l : Nat} {env : Env} (hk : env.scope.kind = .function) (hy : env.scope.names.lookup y = some .local) (hl : (py.line == pos.line) = true)
    (ha : (scope.names.any fun (n, k) => n == y && (k == .local || k == .cell)) = false) : swapsWith (.DictComp kx vx gs scope pos) (some (.Name y py)) l env = pure true := by
  have e1 : env.kindOf y = some .local := hy
  have e2 : env.blockKind = .function := by unfold Env.blockKind; rw [hk]; rfl
  unfold swapsWith
  simp only [e2, e1, ha, Expr.pos, hl]
  rfl
end
end LKW

/-! The checks of rows: is_integer .. last_needs. -/
namespace LKW
open PySem PySem.Spec PyProof.Rows L2 Evl

def spIsInteger : Sp := fun vs H Q _ => ∃ n : Int, vs = [.int n] ∧ RetV (.bl (decide (0 ≤ n))) H Q
def spIsNew : Sp := fun vs H Q _ => ∃ (n : Int) (d : Addr) (l : List (Int × Nat)), vs = [.int n, .ref d] ∧ Rd H d (.dK (kvP l)) ∧ 0 ≤ n ∧ n ∉ l.map (·.1) ∧ RetV (.bl true) H Q
def spAreSet : Sp := fun vs H Q _ => ∃ (t d : Addr) (ns : List Int) (l : List (Int × Nat)), vs = [.ref t, .ref d] ∧ TupI H t ns ∧ Rd H d (.dK (kvP l)) ∧ ns.length ≤ 1000 ∧ (∀ o ∈ ns, 0 ≤ o ∧ o ∈ l.map (·.1)) ∧ RetV (.bl true) H Q
def RowFits (r : LK.Row) : Prop := match r with
  | .leaf _ => True
  | .set _ l => l.length ≤ 1000
  | .use l => l.length ≤ 1000
  | .stop l => l.length ≤ 1000
def spIsRow : Sp := fun vs H Q _ => ∃ (a d : Addr) (r : LK.Row) (l : List (Int × Nat)), vs = [.ref a, .ref d] ∧ IsRow H a r ∧ Rd H d (.dK (kvP l)) ∧ RowFits r ∧ LK.RowOk (l.map (·.1)) r ∧ (∀ o ∈ l.map (·.1), 0 ≤ o) ∧ RetV (.bl true) H Q
def spPlacesIn : Sp := fun vs H Q _ => ∃ (a : Addr) (rows : List LK.Row), vs = [.ref a] ∧ RowsAt H a rows ∧ LK.Valid rows ∧ rows.length ≤ 1000 ∧ (∀ r ∈ rows, RowFits r) ∧
  ∀ p H', H p = none → Ex H H' → H' p = some (.dK (kvP (LK.places rows))) → Q (.ref p) H'
def spCheckOut : Sp := fun vs H Q _ => ∃ (a d : Addr) (out : List Int) (l : List (Int × Nat)), vs = [.ref a, .ref d] ∧ H a = some (.lst (out.map V.int)) ∧ Rd H d (.dK (kvP l)) ∧ (∀ v ∈ out, 0 ≤ v ∧ v ∈ l.map (·.1)) ∧ RetV .non H Q
def spNeededBy : Sp := fun vs H Q _ => ∃ (a : Addr) (r : LK.Row), vs = [.ref a] ∧ IsRow H a r ∧ ∀ t H', Ex H H' → TupI H' t r.needs → Q (.ref t) H'
def spLastNeeds : Sp := fun vs H Q _ => ∃ (a o : Addr) (rows : List LK.Row) (out : List Int), vs = [.ref a, .ref o] ∧ RowsAt H a rows ∧ H o = some (.lst (out.map V.int)) ∧ rows.length ≤ 20 ∧ (∀ r ∈ rows, r.needs.length ≤ 3) ∧ out.length ≤ 3 ∧
  ∀ p H' nk, H p = none → Ex H H' → H' p = some (.dK nk) → NeedIs nk (LK.needAll rows out) → Q (.ref p) H'

theorem et_yes {σ : L2.St} {H : Hp} : EvT tYes σ H true := fun H1 _ Q q => q H1 (Ex.refl _)
theorem given_all {n : Nat} {v : V} : given n (fun _ => true) (fun _ => v) = List.replicate n v := by
  unfold given
  rw [List.filter_eq_self.mpr (fun _ _ => rfl), List.map_const', List.length_range]
theorem ty_tup {K : PySem.W.Frag} {H H1 : Hp} {a : Addr} {xs : List V} (h : H a = some (.tup xs)) (e : Ex H H1) : TyX K H1 (.ref a) (.type "tuple") := .base (.tup (e a _ h))
theorem ty_lst {K : PySem.W.Frag} {H H1 : Hp} {a : Addr} {xs : List V} (h : H a = some (.lst xs)) (e : Ex H H1) : TyX K H1 (.ref a) (.type "list") := .base (.lst (e a _ h))

section
variable {P : Program} {w : World} {K : PySem.W.Frag} {mg : Str → Option Value} {base : Heap} {CN CS : Addr}

theorem ok_IsInteger {f : Addr} {fd : FuncData} (F : Fun K "is_integer" "is_integer" sIsInteger f fd) (T : Txt K mg CN CS)  : FnOk P w K mg base CX0 1 f fd PIsInteger (spIsInteger) := by
  refine F.ok scIsInteger (fun vs H Q E h => ?_) (fun cdv A outer s H vs Q E hr h => ?_)
  · obtain ⟨n, rfl, q⟩ := h
    rfl
  · obtain ⟨n, rfl, q⟩ := h
    refine ⟨_, (pss_one (ps_ret (pe_and (pe_callB call_isi (by rfl) T.m_isinstance (by decide +kernel) (pa_cons (pv 0) (pa_cons (pe_bltn (v := .ty "int") (by rfl) T.m_int (by decide +kernel) rfl) pa_nil))) (pe_and (pe_not (pe_callB call_isi (by rfl) T.m_isinstance (by decide +kernel) (pa_cons (pv 0) (pa_cons (pe_bltn (v := .ty "bool") (by rfl) T.m_bool (by decide +kernel) rfl) pa_nil)))) (pe_one (pe_cmpR op_ge (pv 0) pe_int (nomark _))))))), ?_⟩
    refine s_ret (ev_andV (a := true) (b := decide (0 ≤ n)) ?_ fun _ => ev_andV (a := true) (ev_notV (a := false) ?_) fun _ => ?_) fun H1 e1 => ?_
    · exact ev_isi (n := "int") (tt := .type "int") (ev_var rfl) ev_c (fun _ _ => .base (.int _)) (kit_ty (by decide +kernel))
    · exact ev_isi (n := "bool") (tt := .type "int") (ev_var rfl) ev_c (fun _ _ => .base (.int _)) (kit_ty (by decide +kernel))
    · exact ev_op (ev_var rfl) ev_c rv_I0
    · exact q H1 e1

theorem int_call {σ : L2.St} {H : Hp} {ta : TE} {n : Int} {E : XK} (h : Ev ta σ H (.int n)) (hn : 0 ≤ n) : Ev (tCall spIsInteger [] E (tCons ta tNil)) σ H (.bl true) :=
  ev_call (ea_cons h ea_nil) fun H1 e Q q E => ⟨n, rfl, by rw [decide_eq_true hn]; exact q⟩

theorem ok_IsNew {f : Addr} {fd : FuncData} (F : Fun K "is_new" "is_new" sIsNew f fd) (T : Txt K mg CN CS) (dIsInteger : Df P w K mg base "is_integer" PIsInteger 1 (spIsInteger)) : FnOk P w K mg base CX0 2 f fd PIsNew (spIsNew) := by
  refine F.ok scIsNew (fun vs H Q E h => ?_) (fun cdv A outer s H vs Q E hr h => ?_)
  · obtain ⟨n, d, l, rfl, hd, h0, hn, q⟩ := h
    rfl
  · obtain ⟨n, d, l, rfl, hd, h0, hn, q⟩ := h
    have hu := hu_of hr
    refine ⟨_, (pss_one (ps_ret (pe_and (pe_call dIsInteger.G (hr.mono (by decide)) (by rfl) dIsInteger.g dIsInteger.kp dIsInteger.b .nil pass0 (pa_cons (pv 0) pa_nil)) (pe_one (pe_cmp (pc_dnotin hu (pv 0) (pv 1))))))), ?_⟩
    refine s_ret (ev_andV (a := true) (b := true) (int_call (ev_var rfl) h0) fun _ => ?_) fun H1 e1 => q H1 e1
    have := ev_dni (H := H) (σ := start NIsNew [.int n, .ref d]) (tb := tVar 0) (ta := tVar 1) (ev_var rfl) (ev_var rfl) hd
    rw [kvP_none hn] at this
    exact this

theorem ok_AreSet {f : Addr} {fd : FuncData} (F : Fun K "are_set" "are_set" sAreSet f fd) (T : Txt K mg CN CS) (dIsInteger : Df P w K mg base "is_integer" PIsInteger 1 (spIsInteger)) : FnOk P w K mg base CX0 2 f fd PAreSet (spAreSet) := by
  refine F.ok scAreSet (fun vs H Q E h => ?_) (fun cdv A outer s H vs Q E hr h => ?_)
  · obtain ⟨t, d, ns, l, rfl, ht, hd, hz, hn, q⟩ := h
    rfl
  · obtain ⟨t, d, ns, l, rfl, ht, hd, hz, hn, q⟩ := h
    have hu := hu_of hr
    refine ⟨_, (pss_one (ps_ret (pe_and (pe_callB call_isi (by rfl) T.m_isinstance (by decide +kernel) (pa_cons (pv 0) (pa_cons (pe_bltn (v := .ty "tuple") (by rfl) T.m_tuple (by decide +kernel) rfl) pa_nil))) (pe_one (pe_callB (cr_all rfl) (by rfl) T.m_all (by decide +kernel) (pa_cons (pe_lc (own := [("thing", 2)]) (g := gName 2) (tt := tYes) rfl scAreSet.nd (pi_tup (pv 0)) (blkOk_by (own := [("thing", 2)]) (N := NAreSet) (sc := defScope sAreSet) (by decide +kernel)) (fun _ _ _ _ _ => (pg_name (i := 2) scAreSet.nd rfl (.inl rfl))) (fun _ _ _ _ _ => pts_nil) (fun _ _ _ _ _ => (pe_and (pe_call dIsInteger.G (hr.mono (by decide)) (by rfl) dIsInteger.g dIsInteger.kp dIsInteger.b .nil pass0 (pa_cons (pv 2) pa_nil)) (pe_one (pe_cmp (pc_din hu (pv 2) (pv 1))))))) pa_nil)))))), ?_⟩
    refine s_ret (ev_andV (a := true) (b := true) (ev_isi (n := "tuple") (tt := .type "tuple") (ev_var rfl) ev_c (fun H1 e => ty_tup ht e) (kit_ty (by decide +kernel))) fun _ => ?_) fun H1 e1 => q H1 e1
    have al : (List.replicate ns.length true).all id = true := by simp
    rw [← al]
    refine ev_all ?_
    rw [List.map_replicate, ← given_all, ← List.length_map (as := ns) (f := V.int)]
    refine el_lcT _ _ (ev_var rfl) ht.sq (by rw [List.length_map]; omega) (fun _ => rfl) (fun i x H1 _ _ => et_yes) fun i x H1 e1 hx _ => ?_
    rw [List.getElem?_map] at hx
    cases ex : ns[i]? with
    | none => rw [ex] at hx; cases hx
    | some o =>
      rw [ex] at hx
      cases hx
      obtain ⟨o1, o2⟩ := hn o (List.mem_of_getElem? ex)
      refine ev_andV (a := true) (b := true) (int_call (ev_var rfl) o1) fun _ => ?_
      have h3 := ev_din (H := H1) (σ := (wipe (start NAreSet [.ref t, .ref d]) [2]).set 2 (some (.int o))) (tb := tVar 2) (ta := tVar 1) (ev_var rfl) (ev_var rfl) (rdx e1 hd)
      rw [kvP_some o2] at h3
      exact h3

theorem new_call {σ : L2.St} {H : Hp} {ta tb : TE} {n : Int} {d : Addr} {l : List (Int × Nat)} {E : XK} (h : Ev ta σ H (.int n)) (k : Ev tb σ H (.ref d)) (hd : Rd H d (.dK (kvP l))) (h0 : 0 ≤ n) (hn : n ∉ l.map (·.1)) :
    Ev (tCall spIsNew [] E (tCons ta (tCons tb tNil))) σ H (.bl true) :=
  ev_call (ea_cons h (ea_cons k ea_nil)) fun H1 e Q q E => ⟨n, d, l, rfl, rdx e hd, h0, hn, q⟩
theorem set_call {σ : L2.St} {H : Hp} {ta tb : TE} {t d : Addr} {ns : List Int} {l : List (Int × Nat)} {E : XK} (h : Ev ta σ H (.ref t)) (k : Ev tb σ H (.ref d)) (ht : TupI H t ns) (hd : Rd H d (.dK (kvP l))) (hz : ns.length ≤ 1000)
    (hn : ∀ o ∈ ns, o ∈ l.map (·.1)) (h0 : ∀ o ∈ l.map (·.1), 0 ≤ o) : Ev (tCall spAreSet [] E (tCons ta (tCons tb tNil))) σ H (.bl true) :=
  ev_call (ea_cons h (ea_cons k ea_nil)) fun H1 e Q q E => ⟨t, d, ns, l, rfl, ht.ex e, rdx e hd, hz, fun o ho => ⟨h0 o (hn o ho), hn o ho⟩, q⟩
/-- thing[i] -/
theorem ev_it {σ : L2.St} {H : Hp} {a : Addr} {xs : List V} {v : V} {j : Nat} {i : Int} (hs : σ[j]? = some (some (.ref a))) (h : H a = some (.tup xs)) (hi : atI xs i = some v) : Ev (tOp (rIxT K) (tVar j) (tC (.int i))) σ H v :=
  ev_ixT (ev_var hs) ev_c (st_of h) hi
theorem ev_tag {σ : L2.St} {H : Hp} {a : Addr} {xs : List V} {x y : Str} {j : Nat} {b : Bool} (hs : σ[j]? = some (some (.ref a))) (h : H a = some (.tup xs)) (hi : atI xs 0 = some (.str x)) (hb : decide (V.str x = V.str y) = b) :
    Ev (tOp rEq (tOp (rIxT K) (tVar j) (tC (.int 0))) (tC (.str y))) σ H (.bl b) := by
  rw [← hb]
  exact ev_op (ev_it hs h hi) ev_c (rv_eq rfl)
theorem ev_len_is {σ : L2.St} {H : Hp} {a : Addr} {xs : List V} {n : Int} {j : Nat} {b : Bool} (hs : σ[j]? = some (some (.ref a))) (h : H a = some (.tup xs)) (hb : decide (V.int (xs.length : Int) = V.int n) = b) :
    Ev (tOp rEq (tCB (rLenS K) (tCons (tVar j) tNil)) (tC (.int n))) σ H (.bl b) := by
  rw [← hb]
  exact ev_op (ev_lenT (ev_var hs) (st_of h)) ev_c (rv_eq rfl)
/-- the first test of is_row fails -/
theorem row_shape {σ : L2.St} {H : Hp} {a : Addr} {xs : List V} {x : Str} (hs : σ[0]? = some (some (.ref a))) (h : H a = some (.tup xs)) (hi : atI xs 0 = some (.str x)) (hl : 2 ≤ xs.length) :
    EvT (tOr (tNot (tB (tCB (rIsi K) (tCons (tVar 0) (tCons (tC (.ty "tuple")) tNil))))) (tOr (tTest (tOp (rI0 fun i j => .bl (decide (i < j))) (tCB (rLenS K) (tCons (tVar 0) tNil)) (tC (.int 2)))) (tNot (tB (tCB (rIsi K) (tCons (tOp (rIxT K) (tVar 0) (tC (.int 0))) (tCons (tC (.ty "str")) tNil))))))) σ H false := by
  refine et_is (et_or (a := false) (b := false) (et_not (a := true) (et_B (ev_isi (n := "tuple") (tt := .type "tuple") (ev_var hs) ev_c (fun H1 e => ty_tup h e) (kit_ty (by decide +kernel))))) fun _ =>
    et_or (a := false) (b := false) (et_test (ev_is (ev_op (ev_lenT (ev_var hs) (st_of h)) ev_c rv_I0) ?_)) fun _ => et_not (a := true) (et_B (ev_isi (n := "str") (tt := .type "str") (ev_it hs h hi) ev_c (fun _ _ => .base (.str _)) (kit_ty (by decide +kernel))))) rfl
  rw [decide_eq_false (by omega)]

theorem ok_IsRow {f : Addr} {fd : FuncData} (F : Fun K "is_row" "is_row" sIsRow f fd) (T : Txt K mg CN CS) (dAreSet : Df P w K mg base "are_set" PAreSet 2 (spAreSet)) (dIsNew : Df P w K mg base "is_new" PIsNew 2 (spIsNew)) : FnOk P w K mg base CX0 3 f fd PIsRow (spIsRow) := by
  refine F.ok scIsRow (fun vs H Q E h => ?_) (fun cdv A outer s H vs Q E hr h => ?_)
  · obtain ⟨a, d, r, l, rfl, hr0, hd, hz, ok, h0, q⟩ := h
    rfl
  · obtain ⟨a, d, r, l, rfl, hr0, hd, hz, ok, h0, q⟩ := h
    refine ⟨_, (pss_cons (ps_if (PW.pt (pw_or (pt_not (pt_val (pe_callB call_isi (by rfl) T.m_isinstance (by decide +kernel) (pa_cons (pv 0) (pa_cons (pe_bltn (v := .ty "tuple") (by rfl) T.m_tuple (by decide +kernel) rfl) pa_nil))))) (pw_or (pt_cmpR op_lt (pe_callB call_len_seq (by rfl) T.m_len (by decide +kernel) (pa_cons (pv 0) pa_nil)) pe_int (nomark _)) (pw_or1 (pt_not (pt_val (pe_callB call_isi (by rfl) T.m_isinstance (by decide +kernel) (pa_cons (pe_ix ix_tup (pv 0) pe_int (fun _ _ => rfl)) (pa_cons (pe_bltn (v := .ty "str") (by rfl) T.m_str (by decide +kernel) rfl) pa_nil))))))))) (pss_one (ps_ret pe_bl)) pss_nil)
      (pss_cons (ps_if (pt_cmpR op_eq (pe_ix ix_tup (pv 0) pe_int (fun _ _ => rfl)) (pe_globE (by rfl) T.gLEAF) (nomark _)) (pss_one (ps_ret (pe_and (pe_cmpR op_eq (pe_callB call_len_seq (by rfl) T.m_len (by decide +kernel) (pa_cons (pv 0) pa_nil)) pe_int (nomark _)) (pe_one (pe_call dIsNew.G (hr.mono (by decide)) (by rfl) dIsNew.g dIsNew.kp dIsNew.b .nil pass0 (pa_cons (pe_ix ix_tup (pv 0) pe_int (fun _ _ => rfl)) (pa_cons (pv 1) pa_nil))))))) pss_nil)
      (pss_cons (ps_if (pt_cmpR op_eq (pe_ix ix_tup (pv 0) pe_int (fun _ _ => rfl)) (pe_globE (by rfl) T.gSET) (nomark _)) (pss_one (ps_ret (pe_and (pe_cmpR op_eq (pe_callB call_len_seq (by rfl) T.m_len (by decide +kernel) (pa_cons (pv 0) pa_nil)) pe_int (nomark _)) (pe_and (pe_call dIsNew.G (hr.mono (by decide)) (by rfl) dIsNew.g dIsNew.kp dIsNew.b .nil pass0 (pa_cons (pe_ix ix_tup (pv 0) pe_int (fun _ _ => rfl)) (pa_cons (pv 1) pa_nil))) (pe_one (pe_call dAreSet.G (hr.mono (by decide)) (by rfl) dAreSet.g dAreSet.kp dAreSet.b .nil pass0 (pa_cons (pe_ix ix_tup (pv 0) pe_int (fun _ _ => rfl)) (pa_cons (pv 1) pa_nil)))))))) pss_nil)
      (pss_cons (ps_if (pt_cmpR op_eq (pe_ix ix_tup (pv 0) pe_int (fun _ _ => rfl)) (pe_globE (by rfl) T.gUSE) (nomark _)) (pss_one (ps_ret (pe_and (pe_cmpR op_eq (pe_callB call_len_seq (by rfl) T.m_len (by decide +kernel) (pa_cons (pv 0) pa_nil)) pe_int (nomark _)) (pe_one (pe_call dAreSet.G (hr.mono (by decide)) (by rfl) dAreSet.g dAreSet.kp dAreSet.b .nil pass0 (pa_cons (pe_ix ix_tup (pv 0) pe_int (fun _ _ => rfl)) (pa_cons (pv 1) pa_nil))))))) pss_nil)
      (pss_one (ps_ret (pe_and (pe_cmpR op_eq (pe_ix ix_tup (pv 0) pe_int (fun _ _ => rfl)) (pe_globE (by rfl) T.gSTOP) (nomark _)) (pe_and (pe_cmpR op_eq (pe_callB call_len_seq (by rfl) T.m_len (by decide +kernel) (pa_cons (pv 0) pa_nil)) pe_int (nomark _)) (pe_and (pe_callB call_isi (by rfl) T.m_isinstance (by decide +kernel) (pa_cons (pe_ix ix_tup (pv 0) pe_int (fun _ _ => rfl)) (pa_cons (pe_bltn (v := .ty "str") (by rfl) T.m_str (by decide +kernel) rfl) pa_nil))) (pe_one (pe_call dAreSet.G (hr.mono (by decide)) (by rfl) dAreSet.g dAreSet.kp dAreSet.b .nil pass0 (pa_cons (pe_ix ix_tup (pv 0) pe_int (fun _ _ => rfl)) (pa_cons (pv 1) pa_nil))))))))))))), ?_⟩
    cases r with
    | leaf v =>
      have ha : H a = some (.tup [.str "leaf", .int v]) := hr0
      refine q_when (row_shape rfl ha rfl (by simp)) (fun z => nomatch z) fun _ H1 e1 => ?_
      refine q_when (et_test (ev_tag (b := true) rfl (e1 a _ ha) rfl (by decide +kernel))) (fun _ H2 e2 => ?_) (fun z => nomatch z)
      have e12 := e1.trans e2
      exact s_ret (ev_andV (a := true) (b := true) (ev_len_is rfl (e12 a _ ha) (decide_eq_true rfl)) fun _ => new_call (ev_it rfl (e12 a _ ha) rfl) (ev_var rfl) (rdx e12 hd) ok.1 ok.2) fun H3 e3 => q H3 (e12.trans e3)
    | set v ns =>
      obtain ⟨t, ha, ht⟩ := hr0
      refine q_when (row_shape rfl ha rfl (by simp)) (fun z => nomatch z) fun _ H1 e1 => ?_
      refine q_when (et_test (ev_tag (b := false) rfl (e1 a _ ha) rfl (by decide +kernel))) (fun z => nomatch z) fun _ H2 e2 => ?_
      have e12 := e1.trans e2
      refine q_when (et_test (ev_tag (b := true) rfl (e12 a _ ha) rfl (by decide +kernel))) (fun _ H3 e3 => ?_) (fun z => nomatch z)
      have e13 := e12.trans e3
      exact s_ret (ev_andV (a := true) (b := true) (ev_len_is rfl (e13 a _ ha) (decide_eq_true rfl)) fun _ => ev_andV (a := true) (b := true) (new_call (ev_it rfl (e13 a _ ha) rfl) (ev_var rfl) (rdx e13 hd) ok.1.1 ok.1.2) fun _ =>
        set_call (ev_it rfl (e13 a _ ha) rfl) (ev_var rfl) (ht.ex e13) (rdx e13 hd) hz ok.2 h0) fun H4 e4 => q H4 (e13.trans e4)
    | use ns =>
      obtain ⟨t, ha, ht⟩ := hr0
      refine q_when (row_shape rfl ha rfl (by simp)) (fun z => nomatch z) fun _ H1 e1 => ?_
      refine q_when (et_test (ev_tag (b := false) rfl (e1 a _ ha) rfl (by decide +kernel))) (fun z => nomatch z) fun _ H2 e2 => ?_
      have e12 := e1.trans e2
      refine q_when (et_test (ev_tag (b := false) rfl (e12 a _ ha) rfl (by decide +kernel))) (fun z => nomatch z) fun _ H3 e3 => ?_
      have e13 := e12.trans e3
      refine q_when (et_test (ev_tag (b := true) rfl (e13 a _ ha) rfl (by decide +kernel))) (fun _ H4 e4 => ?_) (fun z => nomatch z)
      have e14 := e13.trans e4
      exact s_ret (ev_andV (a := true) (b := true) (ev_len_is rfl (e14 a _ ha) (decide_eq_true rfl)) fun _ => set_call (ev_it rfl (e14 a _ ha) rfl) (ev_var rfl) (ht.ex e14) (rdx e14 hd) hz ok h0) fun H5 e5 => q H5 (e14.trans e5)
    | stop ns =>
      obtain ⟨z, t, ha, ht⟩ := hr0
      refine q_when (row_shape rfl ha rfl (by simp)) (fun z => nomatch z) fun _ H1 e1 => ?_
      refine q_when (et_test (ev_tag (b := false) rfl (e1 a _ ha) rfl (by decide +kernel))) (fun z => nomatch z) fun _ H2 e2 => ?_
      have e12 := e1.trans e2
      refine q_when (et_test (ev_tag (b := false) rfl (e12 a _ ha) rfl (by decide +kernel))) (fun z => nomatch z) fun _ H3 e3 => ?_
      have e13 := e12.trans e3
      refine q_when (et_test (ev_tag (b := false) rfl (e13 a _ ha) rfl (by decide +kernel))) (fun z => nomatch z) fun _ H4 e4 => ?_
      have e14 := e13.trans e4
      exact s_ret (ev_andV (a := true) (b := true) (ev_tag rfl (e14 a _ ha) rfl (by decide +kernel)) fun _ => ev_andV (a := true) (b := true) (ev_len_is rfl (e14 a _ ha) (decide_eq_true rfl)) fun _ =>
        ev_andV (a := true) (b := true) (ev_isi (n := "str") (tt := .type "str") (ev_it rfl (e14 a _ ha) rfl) ev_c (fun _ _ => .base (.str _)) (kit_ty (by decide +kernel))) fun _ =>
        set_call (ev_it rfl (e14 a _ ha) rfl) (ev_var rfl) (ht.ex e14) (rdx e14 hd) hz ok h0) fun H5 e5 => q H5 (e14.trans e5)
end
end LKW

/-! places_in, check_out, needed_by, last_needs. -/
namespace LKW
open PySem PySem.Spec PyProof.Rows L2 Evl

theorem take_row {α : Type} {l : List α} {i : Nat} {r : α} (h : l[i]? = some r) : l.take (i + 1) = l.take i ++ [r] := by
  rw [List.take_add_one, h]; rfl
theorem valid_take {rows : List LK.Row} (h : LK.Valid rows) (i : Nat) : LK.Valid (rows.take i) := by
  have e := List.take_append_drop i rows
  rw [← e] at h
  exact h.front
theorem need_put {nk : List (Key × V)} {f : Int → Option Nat} (h : NeedIs nk f) (v : Int) (n : Nat) : NeedIs (putK nk (.inl v) (.int (n : Nat))) (fun x => if x = v then some n else f x) := by
  intro x
  rw [valV_put]
  by_cases q : x = v
  · subst q; simp
  · have : ¬ (Sum.inl x : Key) = Sum.inl v := fun z => q (Sum.inl.inj z)
    rw [if_neg this]
    show _ = Option.map _ (if x = v then some n else f x)
    rw [if_neg q]
    exact h x
theorem NeedIs.congr {nk : List (Key × V)} {f g : Int → Option Nat} (h : NeedIs nk f) (e : ∀ x, f x = g x) : NeedIs nk g := fun x => by rw [h x, e x]

section
variable {K : PySem.W.Frag} {σ : L2.St} {H H' : Hp} {ta tb te tx tl : TE} {t u : TT} {x y z v : V} {g : TG} {D : Ends} {tu tw tz : TS} {P : Addr → Hp → Prop} {PV : V → Hp → Prop}
theorem en_ifF (h : EvT t σ H false) (k : EvN tb σ H P) : EvN (tIf t ta tb) σ H P := fun H1 e Q q => h H1 e _ fun H2 e2 => by
  show tb σ H2 Q
  exact k H2 (e.trans e2) Q fun p H3 hp e3 hP => q p H3 (fresh_back e2 hp) (e2.trans e3) hP
theorem ep_ifT (h : EvT t σ H true) (k : EvP ta σ H PV) : EvP (tIf t ta tb) σ H PV := fun H1 e Q q => h H1 e _ fun H2 e2 => by
  show ta σ H2 Q
  exact k H2 (e.trans e2) Q fun p H3 e3 hP => q p H3 (e2.trans e3) hP
theorem ep_ifF (h : EvT t σ H false) (k : EvP tb σ H PV) : EvP (tIf t ta tb) σ H PV := fun H1 e Q q => h H1 e _ fun H2 e2 => by
  show tb σ H2 Q
  exact k H2 (e.trans e2) Q fun p H3 e3 hP => q p H3 (e2.trans e3) hP
/-- over a tuple that an expression gives -/
theorem s_forTP {xs : List V} {j : Nat} (h : EvP tl σ H (fun v H => ∃ t, v = .ref t ∧ H t = some (.tup xs))) (Pv : Addr → Nat → L2.St → Hp → Prop) (h0 : ∀ t H1, Ex H H1 → H1 t = some (.tup xs) → Pv t 0 σ H1) (hl : ∀ t i σ' H', i ≤ xs.length → Pv t i σ' H' → H' t = some (.tup xs))
    (hs : ∀ t i x σ' H', xs[i]? = some x → Pv t i σ' H' → tu { D with nx := Pv t (i + 1), ct := Pv t (i + 1), bk := D.nx } (σ'.set j (some x)) H') (hd : ∀ t σ' H', Pv t xs.length σ' H' → D.nx σ' H') : tFor (iTup K tl) (gName j) tu D σ H :=
  h H (Ex.refl H) _ fun v H1 e hv => by
    obtain ⟨t, rfl, ht⟩ := hv
    exact ⟨t, rfl, ⟨xs, st_of ht⟩, for_tup (Pv t) (h0 t H1 e ht) (fun i σ' H' hi p => st_of (hl t i σ' H' hi p)) (fun i x σ' H' hi p => hs t i x σ' H' hi p) (hd t)⟩
end

section
variable {P : Program} {w : World} {K : PySem.W.Frag} {mg : Str → Option Value} {base : Heap} {CN CS : Addr}
theorem ev_isLT {σ : L2.St} {H : Hp} {a : Addr} {xs : List V} {j : Nat} (hs : σ[j]? = some (some (.ref a))) (h : H a = some (.lst xs)) :
    EvT (tNot (tB (tCB (rIsiT K) (tCons (tVar j) (tCons (tTup (tCons (tC (.ty "list")) (tCons (tC (.ty "tuple")) tNil))) tNil))))) σ H false :=
  et_not (a := true) (et_B (ev_isi2 (n := "list") (m := "tuple") (tt := .type "list") (ev_var hs) (eu_tup (ea_cons ev_c (ea_cons ev_c ea_nil)) (by simp)) (fun H1 e => ty_lst h e) (kitAny_cons (b := true) (kit_ty (by decide +kernel)) (fun z => nomatch z) fun _ => rfl)))

theorem ok_PlacesIn {f : Addr} {fd : FuncData} (F : Fun K "places_in" "places_in" sPlacesIn f fd) (T : Txt K mg CN CS) (dIsRow : Df P w K mg base "is_row" PIsRow 3 (spIsRow)) : FnOk P w K mg base CX0 4 f fd PPlacesIn (spPlacesIn) := by
  refine F.ok scPlacesIn (fun vs H Q E h => ?_) (fun cdv A outer s H vs Q E hr h => ?_)
  · obtain ⟨a, rows, rfl, hR, hv, hz, hfit, q⟩ := h
    rfl
  · obtain ⟨a, rows, rfl, hR, hv, hz, hfit, q⟩ := h
    have hu := hu_of hr
    refine ⟨_, (pss_cons (ps_if (pt_not (pt_val (pe_callB call_isiT (by rfl) T.m_isinstance (by decide +kernel) (pa_cons (pv 0) (pa_cons (pe_tup (pa_cons (pe_bltn (v := .ty "list") (by rfl) T.m_list (by decide +kernel) rfl) (pa_cons (pe_bltn (v := .ty "tuple") (by rfl) T.m_tuple (by decide +kernel) rfl) pa_nil))) pa_nil))))) (pss_one ps_never) pss_nil)
      (pss_cons (ps_set (i := 1) scPlacesIn.nd rfl (.inl rfl) pe_dnewK)
      (pss_cons (ps_for PassesOwn.never rfl (pi_enum (by rfl) T.m_enumerate (pa_cons (pv 0) pa_nil)) (pg_tup rfl (pgs_cons (pg_name (i := 2) scPlacesIn.nd rfl (.inl rfl)) (pgs_cons (pg_name (i := 3) scPlacesIn.nd rfl (.inl rfl)) pgs_nil))) (pss_cons (ps_if (pt_not (pt_val (pe_call dIsRow.G (hr.mono (by decide)) (by rfl) dIsRow.g dIsRow.kp dIsRow.b .nil pass0 (pa_cons (pv 3) (pa_cons (pv 1) pa_nil))))) (pss_one ps_never) pss_nil)
      (pss_one (ps_if (pt_cmpR op_in_seq (pe_ix ix_tup (pv 3) pe_int (fun _ _ => rfl)) (pe_tup (pa_cons (pe_globE (by rfl) T.gLEAF) (pa_cons (pe_globE (by rfl) T.gSET) pa_nil))) (by rfl)) (pss_one (ps_dput hu (pv 1) (pe_ix ix_tup (pv 3) pe_int (fun _ _ => rfl)) (pv 2) rfl)) pss_nil))))
      (pss_one (ps_ret (pv 1)))))), ?_⟩
    obtain ⟨as, ha, hby⟩ := hR
    have hlen := hby.1
    refine q_when (ev_isLT rfl ha) (fun z => nomatch z) fun _ H1 e1 => ?_
    refine q_newK fun p H2 hp e2 h2 => ?_
    have e12 := e1.trans e2
    refine q_forE (ev_var rfl) (sq_of (e12 a _ ha)) (fun i σ' H' => ∃ y2 y3, σ' = [some (.ref a), some (.ref p), y2, y3] ∧ Ex H1 H' ∧ H' p = some (.dK (kvP (LK.places (rows.take i))))) (fun H3 e3 => ⟨none, none, rfl, e2.trans e3, e3 p _ h2⟩) (fun i σ' H' _ ⟨_, _, _, ex, _⟩ => sq_of (ex a _ (e1 a _ ha))) ?_ ?_
    · rintro i x σ' H' Tp H3 hx ⟨y2, y3, rfl, ex, hpd⟩ hT eT h3
      obtain ⟨b, r, rfl, hb, hr', hrow⟩ := hby.item hx
      refine g_two h3 ?_
      have ex3 := ex.trans eT
      have hp3 := eT p _ hpd
      have hrow3 : IsRow H3 b r := hrow.ex (e1.trans ex3)
      have ok : LK.RowOk ((LK.places (rows.take i)).map (·.1)) r := hv i r hr'
      have hplen : (kvP (LK.places (rows.take i))).length < 100000 := by
        rw [kvP_len]
        have : ∀ (l : List LK.Row), (LK.places l).length ≤ l.length := by
          intro l
          induction l using LK.snoc_induct with
          | h0 => simp [LK.places, LK.placesF]
          | hs a r ih => rw [LK.places_snoc, List.length_append, List.length_append]; unfold LK.at1; split <;> simp <;> omega
        have := this (rows.take i)
        rw [List.length_take] at this
        omega
      refine q_when (et_not (a := true) (et_B (ev_call (ea_cons (ev_var rfl) (ea_cons (ev_var rfl) ea_nil)) fun H4 e4 Q' q' E' => ⟨b, p, r, LK.places (rows.take i), rfl, hrow3.ex e4, .inl (e4 p _ hp3), hfit r (List.mem_of_getElem? hr'), ok, order_nonneg (valid_take hv i), q'⟩))) (fun z => nomatch z) fun _ H4 e4 => ?_
      have ex4 := ex3.trans e4
      have hp4 := e4 p _ hp3
      have hrow4 := hrow3.ex e4
      -- a row that sets a value, or another one
      have yes : ∀ (v : Int) (xs : List V) (tg : Str), H4 b = some (.tup xs) → atI xs 0 = some (.str tg) → atI xs 1 = some (.int v) → inV (.str tg) [.str "leaf", .str "set"] = true → r.val = some v → v ∉ (LK.places (rows.take i)).map (·.1) →
          tIfS (tTest (tOp (rIn K false) (tOp (rIxT K) (tVar 3) (tC (.int 0))) (tTup (tCons (tC (.str "leaf")) (tCons (tC (.str "set")) tNil))))) (sDPut (tVar 1) (tOp (rIxT K) (tVar 3) (tC (.int 1))) (tVar 2)) tNext
            { nx := fun σ' H' => ∃ y2 y3, σ' = [some (.ref a), some (.ref p), y2, y3] ∧ Ex H1 H' ∧ H' p = some (.dK (kvP (LK.places (rows.take (i + 1))))), ct := fun σ' H' => ∃ y2 y3, σ' = [some (.ref a), some (.ref p), y2, y3] ∧ Ex H1 H' ∧ H' p = some (.dK (kvP (LK.places (rows.take (i + 1))))), rt := Q, bk := fun σ' H' => tRet (tVar 1) { nx := fun _ H' => Q .non H', rt := Q } σ' H' } [some (.ref a), some (.ref p), some (.int (i : Nat)), some (.ref b)] H4 := by
        intro v xs tg hb4 h0 h1 hin hval hnew
        refine s_when (b := true) (et_test (ev_is (ev_inU (ev_it rfl hb4 h0) (eu_tup (ea_cons ev_c (ea_cons ev_c ea_nil)) (by simp)) rfl rfl) (by rw [hin]))) (fun _ H5 e5 => ?_) (fun z => nomatch z)
        refine s_dput (ev_var rfl) (ev_var rfl) (ev_it rfl (e5 b _ hb4) h1) (e5 p _ hp4) hplen fun H6 e6 => ⟨_, _, rfl, Ex.mut ((ex4.trans e5).trans e6) hp, ?_⟩
        rw [upd_same, kvP_snoc hnew, take_row hr', LK.places_snoc]
        unfold LK.at1
        rw [hval, List.length_take, Nat.min_eq_left (Nat.le_of_lt (List.getElem?_eq_some_iff.mp hr').1)]
      have no : ∀ (xs : List V) (tg : Str), H4 b = some (.tup xs) → atI xs 0 = some (.str tg) → inV (.str tg) [.str "leaf", .str "set"] = false → r.val = none →
          tIfS (tTest (tOp (rIn K false) (tOp (rIxT K) (tVar 3) (tC (.int 0))) (tTup (tCons (tC (.str "leaf")) (tCons (tC (.str "set")) tNil))))) (sDPut (tVar 1) (tOp (rIxT K) (tVar 3) (tC (.int 1))) (tVar 2)) tNext
            { nx := fun σ' H' => ∃ y2 y3, σ' = [some (.ref a), some (.ref p), y2, y3] ∧ Ex H1 H' ∧ H' p = some (.dK (kvP (LK.places (rows.take (i + 1))))), ct := fun σ' H' => ∃ y2 y3, σ' = [some (.ref a), some (.ref p), y2, y3] ∧ Ex H1 H' ∧ H' p = some (.dK (kvP (LK.places (rows.take (i + 1))))), rt := Q, bk := fun σ' H' => tRet (tVar 1) { nx := fun _ H' => Q .non H', rt := Q } σ' H' } [some (.ref a), some (.ref p), some (.int (i : Nat)), some (.ref b)] H4 := by
        intro xs tg hb4 h0 hin hval
        refine s_when (b := false) (et_test (ev_is (ev_inU (ev_it rfl hb4 h0) (eu_tup (ea_cons ev_c (ea_cons ev_c ea_nil)) (by simp)) rfl rfl) (by rw [hin]))) (fun z => nomatch z) (fun _ H5 e5 => ⟨_, _, rfl, ex4.trans e5, ?_⟩)
        rw [e5 p _ hp4, take_row hr', LK.places_snoc]
        unfold LK.at1
        rw [hval, List.append_nil]
      cases r with
      | leaf v => exact yes v _ _ hrow4 rfl rfl (by decide +kernel) rfl ok.2
      | set v ns => obtain ⟨t', hb4, _⟩ := hrow4; exact yes v _ _ hb4 rfl rfl (by decide +kernel) rfl ok.1.2
      | use ns => obtain ⟨t', hb4, _⟩ := hrow4; exact no _ _ hb4 rfl (by decide +kernel) rfl
      | stop ns => obtain ⟨z, t', hb4, _⟩ := hrow4; exact no _ _ hb4 rfl (by decide +kernel) rfl
    · rintro σ' H' ⟨y2, y3, rfl, ex, hpd⟩
      rw [List.length_map, hlen, List.take_length] at hpd
      refine s_ret (ev_var rfl) fun H3 e3 => q p H3 ?_ ((e1.trans ex).trans e3) (e3 p _ hpd)
      exact fresh_back e1 hp

theorem ok_CheckOut {f : Addr} {fd : FuncData} (F : Fun K "check_out" "check_out" sCheckOut f fd) (T : Txt K mg CN CS) (dIsInteger : Df P w K mg base "is_integer" PIsInteger 1 (spIsInteger)) : FnOk P w K mg base CX0 2 f fd PCheckOut (spCheckOut) := by
  refine F.ok scCheckOut (fun vs H Q E h => ?_) (fun cdv A outer s H vs Q E hr h => ?_)
  · obtain ⟨a, d, out, l, rfl, ha, hd, hn, q⟩ := h
    rfl
  · obtain ⟨a, d, out, l, rfl, ha, hd, hn, q⟩ := h
    have hu := hu_of hr
    refine ⟨_, (pss_cons (ps_if (pt_not (pt_val (pe_callB call_isiT (by rfl) T.m_isinstance (by decide +kernel) (pa_cons (pv 0) (pa_cons (pe_tup (pa_cons (pe_bltn (v := .ty "list") (by rfl) T.m_list (by decide +kernel) rfl) (pa_cons (pe_bltn (v := .ty "tuple") (by rfl) T.m_tuple (by decide +kernel) rfl) pa_nil))) pa_nil))))) (pss_one ps_never) pss_nil)
      (pss_one (ps_for PassesOwn.never rfl (pi_enum (by rfl) T.m_enumerate (pa_cons (pv 0) pa_nil)) (pg_tup rfl (pgs_cons (pg_name (i := 2) scCheckOut.nd rfl (.inl rfl)) (pgs_cons (pg_name (i := 3) scCheckOut.nd rfl (.inl rfl)) pgs_nil))) (pss_one (ps_if (PW.pt (pw_or (pt_not (pt_val (pe_call dIsInteger.G (hr.mono (by decide)) (by rfl) dIsInteger.g dIsInteger.kp dIsInteger.b .nil pass0 (pa_cons (pv 3) pa_nil)))) (pw_or1 (pt_cmp (pc_dnotin hu (pv 3) (pv 1)))))) (pss_one ps_never) pss_nil))))), ?_⟩
    refine q_when (ev_isLT rfl ha) (fun z => nomatch z) fun _ H1 e1 => ?_
    refine s_forE (ev_var rfl) (sq_of (e1 a _ ha)) (fun i σ' H' => ∃ y2 y3, σ' = [some (.ref a), some (.ref d), y2, y3] ∧ Ex H H') (fun H3 e3 => ⟨none, none, rfl, e1.trans e3⟩) (fun i σ' H' _ ⟨_, _, _, ex⟩ => sq_of (ex a _ ha)) ?_ ?_
    · rintro i x σ' H' Tp H3 hx ⟨y2, y3, rfl, ex⟩ hT eT h3
      rw [List.getElem?_map] at hx
      cases eo : out[i]? with
      | none => rw [eo] at hx; cases hx
      | some v =>
        rw [eo] at hx
        cases hx
        obtain ⟨v0, vl⟩ := hn v (List.mem_of_getElem? eo)
        refine g_two h3 ?_
        have ex3 := ex.trans eT
        refine s_when (b := false) (et_or (a := false) (b := false) (et_not (a := true) (et_B (int_call (ev_var rfl) v0))) fun _ => et_B (ev_is (ev_dni (ev_var rfl) (ev_var rfl) (rdx ex3 hd)) (by rw [kvP_some vl]; rfl))) (fun z => nomatch z) fun _ H4 e4 => ⟨_, _, rfl, ex3.trans e4⟩
    · rintro σ' H' ⟨y2, y3, rfl, ex⟩
      exact q H' ex

theorem ok_NeededBy {f : Addr} {fd : FuncData} (F : Fun K "needed_by" "needed_by" sNeededBy f fd) (T : Txt K mg CN CS)  : FnOk P w K mg base CX0 1 f fd PNeededBy (spNeededBy) := by
  refine F.ok scNeededBy (fun vs H Q E h => ?_) (fun cdv A outer s H vs Q E hr h => ?_)
  · obtain ⟨a, r, rfl, hr0, q⟩ := h
    rfl
  · obtain ⟨a, r, rfl, hr0, q⟩ := h
    refine ⟨_, (pss_cons (ps_if (pt_cmpR op_eq (pe_ix ix_tup (pv 0) pe_int (fun _ _ => rfl)) (pe_globE (by rfl) T.gSET) (nomark _)) (pss_one (ps_ret (pe_ix ix_tup (pv 0) pe_int (fun _ _ => rfl)))) pss_nil)
      (pss_one (ps_ret (pe_ifExp (pt_cmpR op_eq (pe_ix ix_tup (pv 0) pe_int (fun _ _ => rfl)) (pe_globE (by rfl) T.gUSE) (nomark _)) (pe_ix ix_tup (pv 0) pe_int (fun _ _ => rfl)) (pe_tup pa_nil))))), ?_⟩
    cases r with
    | leaf v =>
      have ha : H a = some (.tup [.str "leaf", .int v]) := hr0
      refine q_when (et_test (ev_tag (b := false) rfl ha rfl (by decide +kernel))) (fun z => nomatch z) fun _ H1 e1 => ?_
      refine s_retN (P := fun p H => H p = some (.tup [])) (en_ifF (et_test (ev_tag (b := false) rfl (e1 a _ ha) rfl (by decide +kernel))) (EvU.toN (eu_tup ea_nil (by simp)))) fun p H2 hp e2 h2 => q p H2 (e1.trans e2) h2
    | set v ns =>
      obtain ⟨t, ha, ht⟩ := hr0
      refine q_when (et_test (ev_tag (b := true) rfl ha rfl (by decide +kernel))) (fun _ H1 e1 => ?_) (fun z => nomatch z)
      exact s_ret (ev_it rfl (e1 a _ ha) rfl) fun H2 e2 => q t H2 (e1.trans e2) (ht.ex (e1.trans e2))
    | use ns =>
      obtain ⟨t, ha, ht⟩ := hr0
      refine q_when (et_test (ev_tag (b := false) rfl ha rfl (by decide +kernel))) (fun z => nomatch z) fun _ H1 e1 => ?_
      exact s_ret (ev_if (b := true) (et_test (ev_tag rfl (e1 a _ ha) rfl (by decide +kernel))) (fun _ => ev_it rfl (e1 a _ ha) rfl) (fun z => nomatch z)) fun H2 e2 => q t H2 (e1.trans e2) (ht.ex (e1.trans e2))
    | stop ns =>
      obtain ⟨z, t, ha, ht⟩ := hr0
      refine q_when (et_test (ev_tag (b := false) rfl ha rfl (by decide +kernel))) (fun z => nomatch z) fun _ H1 e1 => ?_
      refine s_retN (P := fun p H => H p = some (.tup [])) (en_ifF (et_test (ev_tag (b := false) rfl (e1 a _ ha) rfl (by decide +kernel))) (EvU.toN (eu_tup ea_nil (by simp)))) fun p H2 hp e2 h2 => q p H2 (e1.trans e2) h2

theorem ok_LastNeeds {f : Addr} {fd : FuncData} (F : Fun K "last_needs" "last_needs" sLastNeeds f fd) (T : Txt K mg CN CS) (dNeededBy : Df P w K mg base "needed_by" PNeededBy 1 (spNeededBy)) : FnOk P w K mg base CX0 2 f fd PLastNeeds (spLastNeeds) := by
  refine F.ok scLastNeeds (fun vs H Q E h => ?_) (fun cdv A outer s H vs Q E hr h => ?_)
  · obtain ⟨a, o, rows, out, rfl, hR, ho, hz, hnl, hol, q⟩ := h
    rfl
  · obtain ⟨a, o, rows, out, rfl, hR, ho, hz, hnl, hol, q⟩ := h
    have hu := hu_of hr
    refine ⟨_, (pss_cons (ps_set (i := 2) scLastNeeds.nd rfl (.inl rfl) pe_dnewK)
      (pss_cons (ps_for PassesOwn.never rfl (pi_enum (by rfl) T.m_enumerate (pa_cons (pv 0) pa_nil)) (pg_tup rfl (pgs_cons (pg_name (i := 3) scLastNeeds.nd rfl (.inl rfl)) (pgs_cons (pg_name (i := 4) scLastNeeds.nd rfl (.inl rfl)) pgs_nil))) (pss_one (ps_for PassesOwn.never rfl (pi_tup (pe_call dNeededBy.G (hr.mono (by decide)) (by rfl) dNeededBy.g dNeededBy.kp dNeededBy.b .nil pass0 (pa_cons (pv 4) pa_nil))) (pg_name (i := 5) scLastNeeds.nd rfl (.inl rfl)) (pss_one (ps_dput hu (pv 2) (pv 5) (pv 3) rfl)))))
      (pss_cons (ps_for PassesOwn.never rfl (pi_list (pv 1)) (pg_name (i := 5) scLastNeeds.nd rfl (.inl rfl)) (pss_one (ps_dput hu (pv 2) (pv 5) (pe_callB call_len_seq (by rfl) T.m_len (by decide +kernel) (pa_cons (pv 0) pa_nil)) rfl)))
      (pss_one (ps_ret (pv 2)))))), ?_⟩
    obtain ⟨as, ha, hby⟩ := hR
    have hlen := hby.1
    refine q_newK fun p H1 hp e1 h1 => ?_
    have pa : ∀ {b : Addr} {u : HO}, H b = some u → b ≠ p := fun hb => ne_of_none hb hp
    refine q_forE (ev_var rfl) (sq_of (e1 a _ ha)) (fun i σ' H' => ∃ y3 y4 y5 nk, σ' = [some (.ref a), some (.ref o), some (.ref p), y3, y4, y5] ∧ Ex H H' ∧ H' p = some (.dK nk) ∧ NeedIs nk (LK.needR (rows.take i)) ∧ nk.length ≤ 3 * i)
      (fun H2 e2 => ⟨none, none, none, [], rfl, e1.trans e2, e2 p _ h1, fun v => rfl, by simp⟩) (fun i σ' H' _ ⟨_, _, _, _, _, ex, _⟩ => sq_of (ex a _ ha)) ?_ ?_
    · rintro i x σ' H' Tp H2 hx ⟨y3, y4, y5, nk, rfl, ex, hpd, hnk, hkl⟩ hT eT h2
      obtain ⟨b, r, rfl, hb, hr', hrow⟩ := hby.item hx
      have hi : i < rows.length := (List.getElem?_eq_some_iff.mp hr').1
      refine g_two h2 ?_
      have ex2 := ex.trans eT
      refine s_forTP (xs := r.needs.map V.int) (ev_callP (ea_cons (ev_var rfl) ea_nil) fun H3 e3 Q' q' E' => ⟨b, r, rfl, hrow.ex (ex2.trans e3), fun t H4 e4 ht => q' _ H4 e4 ⟨t, rfl, ht⟩⟩)
        (fun t j σ' H' => ∃ y5 nk, σ' = [some (.ref a), some (.ref o), some (.ref p), some (.int (i : Nat)), some (.ref b), y5] ∧ Ex H H' ∧ H' t = some (.tup (r.needs.map V.int)) ∧ H' p = some (.dK nk) ∧ NeedIs nk (fun x => if x ∈ r.needs.take j then some i else LK.needR (rows.take i) x) ∧ nk.length ≤ 3 * i + j) ?_ ?_ ?_ ?_
      · intro t H3 e3 ht
        exact ⟨_, nk, rfl, ex2.trans e3, ht, e3 p _ (eT p _ hpd), hnk.congr fun x => by simp, by omega⟩
      · rintro t j σ' H' _ ⟨_, _, _, _, ht, _⟩
        exact ht
      · rintro t j x σ' H' hx ⟨y5, nk', rfl, ex', ht, hp', hnk', hkl'⟩
        rw [List.getElem?_map] at hx
        cases ev : r.needs[j]? with
        | none => rw [ev] at hx; cases hx
        | some v =>
          rw [ev] at hx
          cases hx
          have hj : j < r.needs.length := (List.getElem?_eq_some_iff.mp ev).1
          have hn3 := hnl r (List.mem_of_getElem? hr')
          refine s_dput (ev_var rfl) (ev_var rfl) (ev_var rfl) hp' (by omega) fun H3 e3 => ⟨_, _, rfl, Ex.mut (ex'.trans e3) hp, ?_, upd_same, (need_put hnk' v i).congr fun x => ?_, ?_⟩
          · rw [upd_ne (ne_of ht hp' (by intro z; cases z))]
            exact e3 t _ ht
          · rw [take_row ev]
            simp only [List.mem_append, List.mem_singleton]
            by_cases q1 : x = v
            · simp [q1]
            · simp [q1]
          · have := length_putK nk' (.inl v) (V.int (i : Nat))
            omega
      · rintro t σ' H' ⟨y5, nk', rfl, ex', ht, hp', hnk', hkl'⟩
        have hn3 := hnl r (List.mem_of_getElem? hr')
        refine ⟨_, _, _, nk', rfl, ex', hp', hnk'.congr fun x => ?_, ?_⟩
        · rw [List.length_map, List.take_length, take_row hr', LK.needR_snoc, List.length_take, Nat.min_eq_left (Nat.le_of_lt hi)]
        · rw [List.length_map] at hkl'
          omega
    · rintro σ' H' ⟨y3, y4, y5, nk, rfl, ex, hpd, hnk, hkl⟩
      rw [List.length_map, hlen] at hnk hkl
      rw [List.take_length] at hnk
      refine q_forLn (ev_var rfl) (sq_of (ex o _ ho)) (fun j σ' H' => ∃ y5 nk, σ' = [some (.ref a), some (.ref o), some (.ref p), y3, y4, y5] ∧ Ex H H' ∧ H' p = some (.dK nk) ∧ NeedIs nk (fun x => if x ∈ out.take j then some rows.length else LK.needR rows x) ∧ nk.length ≤ 3 * rows.length + j) ?_ ?_ ?_ ?_
      · intro H2 e2
        exact ⟨_, nk, rfl, ex.trans e2, e2 p _ hpd, hnk.congr fun x => by simp, by omega⟩
      · rintro i σ' H' _ ⟨_, _, _, ex, _⟩
        exact sq_of (ex o _ ho)
      · rintro j x σ' H' hx ⟨y5', nk', rfl, ex', hp', hnk', hkl'⟩
        rw [List.getElem?_map] at hx
        cases ev : out[j]? with
        | none => rw [ev] at hx; cases hx
        | some v =>
          rw [ev] at hx
          cases hx
          have hj : j < out.length := (List.getElem?_eq_some_iff.mp ev).1
          refine s_dput (v := .int (rows.length : Nat)) (ev_is (ev_len (ev_var rfl) (sq_of (ex' a _ ha))) (by rw [List.length_map, hlen])) (ev_var rfl) (ev_var rfl) hp' (by omega) fun H3 e3 => ⟨_, _, rfl, Ex.mut (ex'.trans e3) hp, upd_same, (need_put hnk' v rows.length).congr fun x => ?_, ?_⟩
          · rw [take_row ev]
            simp only [List.mem_append, List.mem_singleton]
            by_cases q1 : x = v
            · simp [q1]
            · simp [q1]
          · have := length_putK nk' (.inl v) (V.int (rows.length : Nat))
            omega
      · rintro σ' H' ⟨y5', nk', rfl, ex', hp', hnk', hkl'⟩
        rw [List.length_map, List.take_length] at hnk'
        exact s_ret (ev_var rfl) fun H3 e3 => q p H3 nk' hp (ex'.trans e3) (e3 p _ hp') (hnk'.congr fun x => rfl)
end
end LKW

/-! The methods of Stretch. -/
namespace LKW
open PySem PySem.Spec PyProof.Rows L2 Evl

/-- a stretch whose dict of places is not locked -/
def StU (C : Addr) (H : Hp) (x : Addr) (rows : List LK.Row) (out : List Int) : Prop := ∃ dx vp ro oo sp np nk as, StA C H x rows out dx vp ro oo sp np nk as ∧ H vp = some (.dK (kvP (LK.places rows)))
theorem StU.ex {C : Addr} {H H' : Hp} {x : Addr} {rows : List LK.Row} {out : List Int} (h : StU C H x rows out) (e : Ex H H') : StU C H' x rows out :=
  let ⟨dx, vp, ro, oo, sp, np, nk, as, z, y⟩ := h; ⟨dx, vp, ro, oo, sp, np, nk, as, z.ex e, e _ _ y⟩
theorem StU.at_ {C : Addr} {H : Hp} {x : Addr} {rows : List LK.Row} {out : List Int} (h : StU C H x rows out) : StAt C H x rows out :=
  let ⟨dx, vp, ro, oo, sp, np, nk, as, z, _⟩ := h; ⟨dx, vp, ro, oo, sp, np, nk, as, z⟩
theorem StAt.good {C : Addr} {H : Hp} {x : Addr} {rows : List LK.Row} {out : List Int} (h : StAt C H x rows out) : Good rows out :=
  let ⟨_, _, _, _, _, _, _, _, z⟩ := h; z.good

def spStretchInit (C : Addr) : Sp := fun vs H Q _ => ∃ (H0 : Hp) (x dx a o : Addr) (rows : List LK.Row) (out : List Int), vs = [.ref x, .ref a, .ref o] ∧ Ex H0 H ∧ H0 x = none ∧ H x = some (.ins C dx []) ∧ RowsAt H0 a rows ∧ H0 o = some (.lst (out.map V.int)) ∧ Good rows out ∧
  (∀ r ∈ rows, RowFits r) ∧ ∀ H', Ex H0 H' → StU C H' x rows out → Q .non H'
def spStops (C : Addr) : Sp := fun vs H Q _ => ∃ (x : Addr) (rows : List LK.Row) (out : List Int), vs = [.ref x] ∧ StAt C H x rows out ∧ ∀ p H' xs, H p = none → Ex H H' → H' p = some (.lst xs) → xs.length = (LK.stops rows).length → Q (.ref p) H'
def spIsValue (C : Addr) : Sp := fun vs H Q _ => ∃ (x : Addr) (rows : List LK.Row) (out : List Int) (v : Int), vs = [.ref x, .int v] ∧ StAt C H x rows out ∧ v ∈ LK.order rows ∧ RetV (.bl true) H Q
def spIsStop (C : Addr) : Sp := fun vs H Q _ => ∃ (x : Addr) (rows : List LK.Row) (out : List Int) (s : Nat), vs = [.ref x, .int (s : Nat)] ∧ StAt C H x rows out ∧ s < (LK.stops rows).length ∧ RetV (.bl true) H Q
def spCheckValue (C : Addr) : Sp := fun vs H Q _ => ∃ (x : Addr) (rows : List LK.Row) (out : List Int) (v : Int), vs = [.ref x, .int v] ∧ StAt C H x rows out ∧ v ∈ LK.order rows ∧ RetV .non H Q
def spCheckStop (C : Addr) : Sp := fun vs H Q _ => ∃ (x : Addr) (rows : List LK.Row) (out : List Int) (s : Nat), vs = [.ref x, .int (s : Nat)] ∧ StAt C H x rows out ∧ s < (LK.stops rows).length ∧ RetV .non H Q
/-- None, or the tuple of the operands -/
def OpsV (o : Option (List Int)) (v : V) (H : Hp) : Prop := match o with
  | none => v = .non
  | some l => ∃ t, v = .ref t ∧ TupI H t l
theorem OpsV.ex {o : Option (List Int)} {v : V} {H H' : Hp} (h : OpsV o v H) (e : Ex H H') : OpsV o v H' := by
  cases o with
  | none => exact h
  | some l => obtain ⟨t, h1, h2⟩ := h; exact ⟨t, h1, h2.ex e⟩
def spOperands (C : Addr) : Sp := fun vs H Q _ => ∃ (x : Addr) (rows : List LK.Row) (out : List Int) (v : Int), vs = [.ref x, .int v] ∧ StAt C H x rows out ∧ v ∈ LK.order rows ∧ ∀ u H', Ex H H' → OpsV (LK.opsOf rows v) u H' → Q u H'
def spAsked (C : Addr) : Sp := fun vs H Q _ => ∃ (x : Addr) (rows : List LK.Row) (out : List Int) (s : Nat), vs = [.ref x, .int (s : Nat)] ∧ StAt C H x rows out ∧ s < (LK.stops rows).length ∧ ∀ t H', Ex H H' → TupI H' t ((LK.sysOf rows out).asks s) → Q (.ref t) H'
def spIsPresent (C : Addr) : Sp := fun vs H Q _ => ∃ (x : Addr) (rows : List LK.Row) (out : List Int) (v : Int) (s : Nat), vs = [.ref x, .int v, .int (s : Nat)] ∧ StAt C H x rows out ∧ v ∈ LK.order rows ∧ s < (LK.stops rows).length ∧ RetV (.bl ((LK.sysOf rows out).here v s)) H Q
def spStretchIsLive (C : Addr) : Sp := fun vs H Q _ => ∃ (x : Addr) (rows : List LK.Row) (out : List Int) (v : Int) (s : Nat), vs = [.ref x, .int v, .int (s : Nat)] ∧ StAt C H x rows out ∧ v ∈ LK.order rows ∧ s < (LK.stops rows).length ∧ RetV (.bl ((LK.sysOf rows out).live v s)) H Q
def spPresent (C : Addr) : Sp := fun vs H Q _ => ∃ (x : Addr) (rows : List LK.Row) (out : List Int) (s : Nat), vs = [.ref x, .int (s : Nat)] ∧ StU C H x rows out ∧ s < (LK.stops rows).length ∧ ∀ p H', H p = none → Ex H H' → H' p = some (.lst (((LK.sysOf rows out).present s).map V.int)) → Q (.ref p) H'

theorem putF_ne {f g : Str} {v x : V} {r : List (Str × V)} (h : ¬ g = f) : putF f v ((g, x) :: r) = (g, x) :: putF f v r := by
  show (if g = f then _ else _) = _
  rw [if_neg h]
theorem given_true_len {n : Nat} {v : Nat → V} : (given n (fun _ => true) v).length = n := by
  unfold given
  rw [List.filter_eq_self.mpr (fun _ _ => rfl), List.length_map, List.length_range]
theorem given_stops {rows : List LK.Row} : ∀ n, n ≤ rows.length → given n (fun i => ((rows[i]?).bind LK.Row.ask).isSome) (fun i => V.int (i : Nat)) = (LK.stops (rows.take n)).map fun n => V.int (n : Nat) := by
  intro n
  induction n with
  | zero => intro _; simp [given, LK.stops, LK.stopsF]
  | succ n ih =>
    intro h
    have hr := List.getElem?_eq_getElem (show n < rows.length by omega)
    rw [take_row hr, LK.stops_snoc, List.map_append, ← ih (by omega), List.length_take, Nat.min_eq_left (by omega)]
    cases q : (rows[n]).ask with
    | none =>
      rw [given_no (by rw [hr]; simp [q])]
      simp
    | some l =>
      rw [given_yes (by rw [hr]; simp [q])]
      simp
theorem given_filter {kvs : List (Key × V)} {f : Nat → Bool} {v : Nat → V} {l : List Int} {g : Int → Bool} (hl : kvs.length = l.length) (hf : ∀ i x, l[i]? = some x → f i = g x) (hv : ∀ i x, l[i]? = some x → v i = V.int x) : given kvs.length f v = (l.filter g).map V.int := by
  rw [hl]
  have key : ∀ n, n ≤ l.length → given n f v = ((l.take n).filter g).map V.int := by
    intro n
    induction n with
    | zero => intro _; simp [given]
    | succ n ih =>
      intro h
      have hr := List.getElem?_eq_getElem (show n < l.length by omega)
      rw [take_row hr, List.filter_append, List.map_append, ← ih (by omega)]
      cases q : g l[n] with
      | true =>
        rw [given_yes (by rw [hf n _ hr]; exact q), hv n _ hr]
        simp [q]
      | false =>
        rw [given_no (by rw [hf n _ hr]; exact q)]
        simp [q]
  have := key l.length (Nat.le_refl _)
  rw [List.take_length] at this
  exact this
theorem good_rl {rows : List LK.Row} {out : List Int} (g : Good rows out) : (LK.order rows).length ≤ 20 := by
  have : ∀ (l : List LK.Row), (LK.places l).length ≤ l.length := by
    intro l
    induction l using LK.snoc_induct with
    | h0 => simp [LK.places, LK.placesF]
    | hs a r ih => rw [LK.places_snoc, List.length_append, List.length_append]; unfold LK.at1; split <;> simp <;> omega
  have h := this rows
  unfold LK.order
  rw [List.length_map]
  have := g.rl
  omega
theorem good_stops {rows : List LK.Row} {out : List Int} (g : Good rows out) : (LK.stops rows).length ≤ 20 := by
  have : ∀ (l : List LK.Row), (LK.stops l).length ≤ l.length := by
    intro l
    induction l using LK.snoc_induct with
    | h0 => simp [LK.stops, LK.stopsF]
    | hs a r ih => rw [LK.stops_snoc, List.length_append, List.length_append]; split <;> simp <;> omega
  have h := this rows
  have := g.rl
  omega

section
variable {P : Program} {w : World} {K : PySem.W.Frag} {mg : Str → Option Value} {base : Heap} {CN CS : Addr}

/-! ### reading the fields -/
section
variable {σ : L2.St} {H : Hp} {x : Addr} {rows : List LK.Row} {out : List Int} {dx vp ro oo sp np : Addr} {nk : List (Key × V)} {as : List Addr} {ta tb : TE}
theorem f_vp (T : Txt K mg CN CS) (S : StA CS H x rows out dx vp ro oo sp np nk as) (h : Ev ta σ H (.ref x)) : Ev (tFld K ta "value_places") σ H (.ref vp) := ev_fld h S.ins T.clStretch T.nVp (stF_vp _ _ _ _ _)
theorem f_ro (T : Txt K mg CN CS) (S : StA CS H x rows out dx vp ro oo sp np nk as) (h : Ev ta σ H (.ref x)) : Ev (tFld K ta "own_rows") σ H (.ref ro) := ev_fld h S.ins T.clStretch T.nRows (stF_ro _ _ _ _ _)
theorem f_sp (T : Txt K mg CN CS) (S : StA CS H x rows out dx vp ro oo sp np nk as) (h : Ev ta σ H (.ref x)) : Ev (tFld K ta "stop_places") σ H (.ref sp) := ev_fld h S.ins T.clStretch T.nSp (stF_sp _ _ _ _ _)
theorem f_np (T : Txt K mg CN CS) (S : StA CS H x rows out dx vp ro oo sp np nk as) (h : Ev ta σ H (.ref x)) : Ev (tFld K ta "need_places") σ H (.ref np) := ev_fld h S.ins T.clStretch T.nNp (stF_np _ _ _ _ _)
/-- self.value_places[value] -/
theorem f_place (T : Txt K mg CN CS) (S : StA CS H x rows out dx vp ro oo sp np nk as) (h : Ev ta σ H (.ref x)) {v : Int} (k : Ev tb σ H (.int v)) (hv : v ∈ LK.order rows) : Ev (tDGet (tFld K ta "value_places") tb) σ H (.int (LK.plOf rows v : Nat)) :=
  ev_dget (f_vp T S h) k S.vp (by rw [kvP_val, (LK.plOf_mem hv).2]; rfl)
/-- self.stop_places[stop] -/
theorem f_stop (T : Txt K mg CN CS) (S : StA CS H x rows out dx vp ro oo sp np nk as) (h : Ev ta σ H (.ref x)) {s : Nat} (k : Ev tb σ H (.int (s : Nat))) (hs : s < (LK.stops rows).length) : Ev (tOp (rIxL K) (tFld K ta "stop_places") tb) σ H (.int ((LK.stops rows).getD s 0 : Nat)) :=
  ev_ixL (f_sp T S h) k (sq_of S.sp) (atI_nat (by rw [List.getElem?_map, List.getElem?_eq_getElem hs, List.getD_eq_getElem?_getD, List.getElem?_eq_getElem hs]; rfl))
/-- self.own_rows[n] -/
theorem f_row (T : Txt K mg CN CS) (S : StA CS H x rows out dx vp ro oo sp np nk as) (h : Ev ta σ H (.ref x)) {n : Nat} (k : Ev tb σ H (.int (n : Nat))) {b : Addr} (hb : as[n]? = some b) : Ev (tOp (rIxL K) (tFld K ta "own_rows") tb) σ H (.ref b) :=
  ev_ixL (f_ro T S h) k (sq_of S.ro) (atI_nat (by rw [List.getElem?_map, hb]; rfl))
end

theorem ok_StretchIsValue {f : Addr} {fd : FuncData} (F : Fun K "is_value" "Stretch.is_value" sStretchIsValue f fd) (T : Txt K mg CN CS) (dIsInteger : Df P w K mg base "is_integer" PIsInteger 1 (spIsInteger)) : FnOk P w K mg base CX0 2 f fd PStretchIsValue (spIsValue CS) := by
  refine F.ok scStretchIsValue (fun vs H Q E h => ?_) (fun cdv A outer s H vs Q E hr h => ?_)
  · obtain ⟨x, rows, out, v, rfl, ⟨dx, vp, ro, oo, sp, np, nk, as, S⟩, hv, q⟩ := h
    rfl
  · obtain ⟨x, rows, out, v, rfl, ⟨dx, vp, ro, oo, sp, np, nk, as, S⟩, hv, q⟩ := h
    have hu := hu_of hr
    refine ⟨_, (pss_one (ps_ret (pe_and (pe_call dIsInteger.G (hr.mono (by decide)) (by rfl) dIsInteger.g dIsInteger.kp dIsInteger.b .nil pass0 (pa_cons (pv 1) pa_nil)) (pe_one (pe_cmp (pc_din hu (pv 1) (pe_fld (pv 0) rfl))))))), ?_⟩
    exact s_ret (ev_andV (a := true) (b := true) (int_call (ev_var rfl) (order_nonneg S.good.valid v hv)) fun _ => ev_is (ev_din (ev_var rfl) (f_vp T S (ev_var rfl)) S.vp) (by rw [kvP_some hv])) fun H1 e1 => q H1 e1

theorem ok_StretchIsStop {f : Addr} {fd : FuncData} (F : Fun K "is_stop" "Stretch.is_stop" sStretchIsStop f fd) (T : Txt K mg CN CS) (dIsInteger : Df P w K mg base "is_integer" PIsInteger 1 (spIsInteger)) : FnOk P w K mg base CX0 2 f fd PStretchIsStop (spIsStop CS) := by
  refine F.ok scStretchIsStop (fun vs H Q E h => ?_) (fun cdv A outer s H vs Q E hr h => ?_)
  · obtain ⟨x, rows, out, j, rfl, ⟨dx, vp, ro, oo, sp, np, nk, as, S⟩, hs, q⟩ := h
    rfl
  · obtain ⟨x, rows, out, j, rfl, ⟨dx, vp, ro, oo, sp, np, nk, as, S⟩, hs, q⟩ := h
    refine ⟨_, (pss_one (ps_ret (pe_and (pe_call dIsInteger.G (hr.mono (by decide)) (by rfl) dIsInteger.g dIsInteger.kp dIsInteger.b .nil pass0 (pa_cons (pv 1) pa_nil)) (pe_one (pe_cmpR op_lt (pv 1) (pe_callB call_len_seq (by rfl) T.m_len (by decide +kernel) (pa_cons (pe_fld (pv 0) rfl) pa_nil)) (nomark _)))))), ?_⟩
    exact s_ret (ev_andV (a := true) (b := true) (int_call (ev_var rfl) (Int.natCast_nonneg j)) fun _ => ev_is (ev_op (ev_var rfl) (ev_len (f_sp T S (ev_var rfl)) (sq_of S.sp)) rv_I0) (by rw [List.length_map, decide_eq_true (by omega)])) fun H1 e1 => q H1 e1

theorem ok_StretchCheckValue {f : Addr} {fd : FuncData} (F : Fun K "check_value" "Stretch.check_value" sStretchCheckValue f fd) (T : Txt K mg CN CS) (mIsValue : Md P w K mg base CS "is_value" PStretchIsValue 2 (spIsValue CS)) : FnOk P w K mg base CX0 3 f fd PStretchCheckValue (spCheckValue CS) := by
  refine F.ok scStretchCheckValue (fun vs H Q E h => ?_) (fun cdv A outer s H vs Q E hr h => ?_)
  · obtain ⟨x, rows, out, v, rfl, ⟨dx, vp, ro, oo, sp, np, nk, as, S⟩, hv, q⟩ := h
    rfl
  · obtain ⟨x, rows, out, v, rfl, ⟨dx, vp, ro, oo, sp, np, nk, as, S⟩, hv, q⟩ := h
    refine ⟨_, (pss_one (ps_if (pt_not (pt_val (pe_meth (pv 0) T.clStretch mIsValue.M mIsValue.G (hr.mono (by decide)) mIsValue.b .nil pass0 (pa_cons (pv 1) pa_nil)))) (pss_one ps_never) pss_nil)), ?_⟩
    refine s_when (b := false) (et_not (a := true) (et_B (ev_meth (ev_var rfl) S.ins (stF_no _ _ _ _ _ (by decide +kernel) (by decide +kernel) (by decide +kernel) (by decide +kernel) (by decide +kernel)) (ea_cons (ev_var rfl) ea_nil) fun H1 e Q' q' E' =>
      ⟨x, rows, out, v, rfl, ⟨dx, vp, ro, oo, sp, np, nk, as, S.ex e⟩, hv, q'⟩))) (fun z => nomatch z) fun _ H1 e1 => q H1 e1

theorem ok_StretchCheckStop {f : Addr} {fd : FuncData} (F : Fun K "check_stop" "Stretch.check_stop" sStretchCheckStop f fd) (T : Txt K mg CN CS) (mIsStop : Md P w K mg base CS "is_stop" PStretchIsStop 2 (spIsStop CS)) : FnOk P w K mg base CX0 3 f fd PStretchCheckStop (spCheckStop CS) := by
  refine F.ok scStretchCheckStop (fun vs H Q E h => ?_) (fun cdv A outer s H vs Q E hr h => ?_)
  · obtain ⟨x, rows, out, j, rfl, ⟨dx, vp, ro, oo, sp, np, nk, as, S⟩, hs, q⟩ := h
    rfl
  · obtain ⟨x, rows, out, j, rfl, ⟨dx, vp, ro, oo, sp, np, nk, as, S⟩, hs, q⟩ := h
    refine ⟨_, (pss_one (ps_if (pt_not (pt_val (pe_meth (pv 0) T.clStretch mIsStop.M mIsStop.G (hr.mono (by decide)) mIsStop.b .nil pass0 (pa_cons (pv 1) pa_nil)))) (pss_one ps_never) pss_nil)), ?_⟩
    refine s_when (b := false) (et_not (a := true) (et_B (ev_meth (ev_var rfl) S.ins (stF_no _ _ _ _ _ (by decide +kernel) (by decide +kernel) (by decide +kernel) (by decide +kernel) (by decide +kernel)) (ea_cons (ev_var rfl) ea_nil) fun H1 e Q' q' E' =>
      ⟨x, rows, out, j, rfl, ⟨dx, vp, ro, oo, sp, np, nk, as, S.ex e⟩, hs, q'⟩))) (fun z => nomatch z) fun _ H1 e1 => q H1 e1

theorem ok_StretchOperands {f : Addr} {fd : FuncData} (F : Fun K "operands" "Stretch.operands" sStretchOperands f fd) (T : Txt K mg CN CS) (mCheckValue : Md P w K mg base CS "check_value" PStretchCheckValue 3 (spCheckValue CS)) : FnOk P w K mg base CX0 4 f fd PStretchOperands (spOperands CS) := by
  refine F.ok scStretchOperands (fun vs H Q E h => ?_) (fun cdv A outer s H vs Q E hr h => ?_)
  · obtain ⟨x, rows, out, v, rfl, ⟨dx, vp, ro, oo, sp, np, nk, as, S⟩, hv, q⟩ := h
    rfl
  · obtain ⟨x, rows, out, v, rfl, ⟨dx, vp, ro, oo, sp, np, nk, as, S⟩, hv, q⟩ := h
    have hu := hu_of hr
    refine ⟨_, (pss_cons (ps_expr (pe_meth (pv 0) T.clStretch mCheckValue.M mCheckValue.G (hr.mono (by decide)) mCheckValue.b .nil pass0 (pa_cons (pv 1) pa_nil)))
      (pss_cons (ps_set (i := 2) scStretchOperands.nd rfl (.inl rfl) (pe_ix ix_list (pe_fld (pv 0) rfl) (pe_dget hu (pe_fld (pv 0) rfl) (pv 1) (fun _ _ => rfl)) (fun _ _ => rfl)))
      (pss_one (ps_ret (pe_ifExp (pt_cmpR op_eq (pe_ix ix_tup (pv 2) pe_int (fun _ _ => rfl)) (pe_globE (by rfl) T.gSET) (nomark _)) (pe_ix ix_tup (pv 2) pe_int (fun _ _ => rfl)) pe_non))))), ?_⟩
    refine q_drop (ev_meth (ev_var rfl) S.ins (stF_no _ _ _ _ _ (by decide +kernel) (by decide +kernel) (by decide +kernel) (by decide +kernel) (by decide +kernel)) (ea_cons (ev_var rfl) ea_nil) fun H1 e Q' q' E' =>
      ⟨x, rows, out, v, rfl, ⟨dx, vp, ro, oo, sp, np, nk, as, S.ex e⟩, hv, q'⟩) fun H1 e1 => ?_
    have S1 := S.ex e1
    obtain ⟨r, hr1, hr2⟩ := LK.plOf_row hv
    obtain ⟨b, hb, hrow⟩ := S1.by_.get hr1
    refine q_asg (f_row T S1 (ev_var rfl) (f_place T S1 (ev_var rfl) (ev_var rfl) hv) hb) fun H2 e2 => ?_
    have hrow2 := hrow.ex e2
    have eo : LK.opsOf rows v = r.ops := by unfold LK.opsOf; rw [hr1]; rfl
    rw [eo] at q
    cases r with
    | leaf u => exact s_ret (v := .non) (ev_if (b := false) (et_test (ev_tag rfl hrow2 rfl (by decide +kernel))) (fun z => nomatch z) (fun _ => ev_c)) fun H3 e3 => q _ H3 ((e1.trans e2).trans e3) rfl
    | set u l =>
      obtain ⟨t, hb2, ht⟩ := hrow2
      exact s_ret (v := .ref t) (ev_if (b := true) (et_test (ev_tag rfl hb2 rfl (by decide +kernel))) (fun _ => ev_it rfl hb2 rfl) (fun z => nomatch z)) fun H3 e3 => q _ H3 ((e1.trans e2).trans e3) ⟨t, rfl, ht.ex e3⟩
    | use l => cases hr2
    | stop l => cases hr2

theorem ok_StretchAsked {f : Addr} {fd : FuncData} (F : Fun K "asked" "Stretch.asked" sStretchAsked f fd) (T : Txt K mg CN CS) (mCheckStop : Md P w K mg base CS "check_stop" PStretchCheckStop 3 (spCheckStop CS)) : FnOk P w K mg base CX0 4 f fd PStretchAsked (spAsked CS) := by
  refine F.ok scStretchAsked (fun vs H Q E h => ?_) (fun cdv A outer s H vs Q E hr h => ?_)
  · obtain ⟨x, rows, out, j, rfl, ⟨dx, vp, ro, oo, sp, np, nk, as, S⟩, hs, q⟩ := h
    rfl
  · obtain ⟨x, rows, out, j, rfl, ⟨dx, vp, ro, oo, sp, np, nk, as, S⟩, hs, q⟩ := h
    refine ⟨_, (pss_cons (ps_expr (pe_meth (pv 0) T.clStretch mCheckStop.M mCheckStop.G (hr.mono (by decide)) mCheckStop.b .nil pass0 (pa_cons (pv 1) pa_nil)))
      (pss_one (ps_ret (pe_ix ix_tup (pe_ix ix_list (pe_fld (pv 0) rfl) (pe_ix ix_list (pe_fld (pv 0) rfl) (pv 1) (fun _ _ => rfl)) (fun _ _ => rfl)) pe_int (fun _ _ => rfl))))), ?_⟩
    refine q_drop (ev_meth (ev_var rfl) S.ins (stF_no _ _ _ _ _ (by decide +kernel) (by decide +kernel) (by decide +kernel) (by decide +kernel) (by decide +kernel)) (ea_cons (ev_var rfl) ea_nil) fun H1 e Q' q' E' =>
      ⟨x, rows, out, j, rfl, ⟨dx, vp, ro, oo, sp, np, nk, as, S.ex e⟩, hs, q'⟩) fun H1 e1 => ?_
    have S1 := S.ex e1
    obtain ⟨r, l, hr1, hr2, hr3⟩ := LK.stops_at rows j hs
    obtain ⟨b, hb, hrow⟩ := S1.by_.get hr1
    have ea : (LK.sysOf rows out).asks j = l := by
      show (LK.askedL rows).getD j [] = l
      rw [List.getD_eq_getElem?_getD, hr3]; rfl
    rw [ea] at q
    cases r with
    | stop l' =>
      cases hr2
      obtain ⟨z, t, hb2, ht⟩ := hrow
      exact s_ret (ev_ixT (f_row T S1 (ev_var rfl) (f_stop T S1 (ev_var rfl) (ev_var rfl) hs) hb) ev_c (st_of hb2) rfl) fun H3 e3 => q t H3 (e1.trans e3) (ht.ex e3)
    | leaf u => cases hr2
    | set u l => cases hr2
    | use l => cases hr2

theorem ok_StretchIsPresent {f : Addr} {fd : FuncData} (F : Fun K "is_present" "Stretch.is_present" sStretchIsPresent f fd) (T : Txt K mg CN CS)  : FnOk P w K mg base CX0 1 f fd PStretchIsPresent (spIsPresent CS) := by
  refine F.ok scStretchIsPresent (fun vs H Q E h => ?_) (fun cdv A outer s H vs Q E hr h => ?_)
  · obtain ⟨x, rows, out, v, j, rfl, ⟨dx, vp, ro, oo, sp, np, nk, as, S⟩, hv, hs, q⟩ := h
    rfl
  · obtain ⟨x, rows, out, v, j, rfl, ⟨dx, vp, ro, oo, sp, np, nk, as, S⟩, hv, hs, q⟩ := h
    have hu := hu_of hr
    refine ⟨_, (pss_one (ps_ret (pe_cmpR op_lt (pe_dget hu (pe_fld (pv 0) rfl) (pv 1) (fun _ _ => rfl)) (pe_ix ix_list (pe_fld (pv 0) rfl) (pv 2) (fun _ _ => rfl)) (nomark _)))), ?_⟩
    refine s_ret (ev_is (ev_op (f_place T S (ev_var rfl) (ev_var rfl) hv) (f_stop T S (ev_var rfl) (ev_var rfl) hs) rv_I0) (congrArg V.bl ?_)) fun H1 e1 => q H1 e1
    show decide (((LK.plOf rows v : Nat) : Int) < ((LK.stops rows).getD j 0 : Nat)) = decide (LK.plOf rows v < (LK.stops rows).getD j 0)
    exact decide_eq_decide.mpr Int.ofNat_lt

theorem ok_StretchIsLive {f : Addr} {fd : FuncData} (F : Fun K "is_live" "Stretch.is_live" sStretchIsLive f fd) (T : Txt K mg CN CS) (mIsPresent : Md P w K mg base CS "is_present" PStretchIsPresent 1 (spIsPresent CS)) : FnOk P w K mg base CX0 2 f fd PStretchIsLive (spStretchIsLive CS) := by
  refine F.ok scStretchIsLive (fun vs H Q E h => ?_) (fun cdv A outer s H vs Q E hr h => ?_)
  · obtain ⟨x, rows, out, v, j, rfl, ⟨dx, vp, ro, oo, sp, np, nk, as, S⟩, hv, hs, q⟩ := h
    rfl
  · obtain ⟨x, rows, out, v, j, rfl, ⟨dx, vp, ro, oo, sp, np, nk, as, S⟩, hv, hs, q⟩ := h
    have hu := hu_of hr
    refine ⟨_, (pss_one (ps_ret (pe_and (pe_meth (pv 0) T.clStretch mIsPresent.M mIsPresent.G (hr.mono (by decide)) mIsPresent.b .nil pass0 (pa_cons (pv 1) (pa_cons (pv 2) pa_nil))) (pe_one (pe_cmpR op_gt (pe_dget2 hu (pe_fld (pv 0) rfl) (pv 1) (pe_un un_neg pe_int) ⟨rfl, rfl, rfl, rfl⟩) (pe_ix ix_list (pe_fld (pv 0) rfl) (pv 2) (fun _ _ => rfl)) (nomark _)))))), ?_⟩
    refine s_ret (ev_andV (a := (LK.sysOf rows out).here v j) (b := decide ((LK.sysOf rows out).need v > ((LK.stops rows).getD j 0 : Nat))) (ev_meth (ev_var rfl) S.ins (stF_no _ _ _ _ _ (by decide +kernel) (by decide +kernel) (by decide +kernel) (by decide +kernel) (by decide +kernel)) (ea_cons (ev_var rfl) (ea_cons (ev_var rfl) ea_nil)) fun H1 e Q' q' E' =>
      ⟨x, rows, out, v, j, rfl, ⟨dx, vp, ro, oo, sp, np, nk, as, S.ex e⟩, hv, hs, q'⟩) fun _ => ?_) fun H1 e1 => q H1 e1
    have e0 : (valV nk (.inl v)).getD (.int (-1)) = .int ((LK.sysOf rows out).need v) := by
      rw [S.need v]
      show _ = V.int (match LK.needAll rows out v with | some n => (n : Int) | none => -1)
      cases LK.needAll rows out v <;> rfl
    exact ev_op (ev_is (ev_dget2 (f_np T S (ev_var rfl)) (ev_var rfl) (ev_un ev_c ru_neg) S.np) e0) (f_stop T S (ev_var rfl) (ev_var rfl) hs) rv_I0

theorem ok_StretchStops {f : Addr} {fd : FuncData} (F : Fun K "stops" "Stretch.stops" sStretchStops f fd) (T : Txt K mg CN CS)  : FnOk P w K mg base CX0 1 f fd PStretchStops (spStops CS) := by
  refine F.ok scStretchStops (fun vs H Q E h => ?_) (fun cdv A outer s H vs Q E hr h => ?_)
  · obtain ⟨x, rows, out, rfl, ⟨dx, vp, ro, oo, sp, np, nk, as, S⟩, q⟩ := h
    rfl
  · obtain ⟨x, rows, out, rfl, ⟨dx, vp, ro, oo, sp, np, nk, as, S⟩, q⟩ := h
    refine ⟨_, (pss_one (ps_ret (pe_lc (te := tOp (rIxT K) (tOp (rIxL K) (tFld K (tVar 0) "own_rows") (tVar 1)) (tC (.int 1))) (own := [("place", 1)]) (g := gName 1) (tt := tYes) rfl scStretchStops.nd (pi_list (pe_fld (pv 0) rfl)) (blkOk_by (own := [("place", 1)]) (N := NStretchStops) (sc := defScope sStretchStops) (by decide +kernel)) (fun _ _ _ _ _ => (pg_name (i := 1) scStretchStops.nd rfl (.inl rfl))) (fun _ _ _ _ _ => pts_nil) (fun _ _ _ _ _ => (pe_ix ix_tup (pe_ix ix_list (pe_fld (pv 0) rfl) (pv 1) (fun _ _ => rfl)) pe_int (fun _ _ => rfl)))))), ?_⟩
    have hst := good_stops S.good
    refine s_retL (xs := given ((LK.stops rows).map fun n => V.int (n : Nat)).length (fun _ => true) (fun i => match as[(LK.stops rows).getD i 0]? with | some b => (match H b with | some (.tup (_ :: z :: _)) => z | _ => .non) | none => .non)) (el_lcL _ _ (f_sp T S (ev_var rfl)) (sq_of S.sp) (by rw [List.length_map]; omega) (fun _ => rfl) (fun i y H1 e1 hi => et_yes) fun i y H1 e1 hi _ => ?_) fun p H1 hp e1 h1 => q p H1 _ hp e1 h1 (by rw [given_true_len, List.length_map])
    have S1 := S.ex e1
    rw [List.getElem?_map] at hi
    cases es : (LK.stops rows)[i]? with
    | none => rw [es] at hi; cases hi
    | some n =>
      rw [es] at hi
      cases hi
      have hlt := (List.getElem?_eq_some_iff.mp es).1
      have eg : (LK.stops rows).getD i 0 = n := by rw [List.getD_eq_getElem?_getD, es]; rfl
      obtain ⟨r, l, hr1, hr2, hr3⟩ := LK.stops_at rows i hlt
      rw [eg] at hr1 ⊢
      obtain ⟨b, hb, hrow⟩ := S.by_.get hr1
      rw [hb]
      cases r with
      | stop l' =>
        obtain ⟨z, t, hb2, ht⟩ := hrow
        show Ev _ _ H1 (match H b with | some (.tup (_ :: z :: _)) => z | _ => V.non)
        rw [hb2]
        exact ev_ixT (f_row T S1 (ev_var rfl) (ev_var rfl) hb) ev_c (st_of (e1 b _ hb2)) rfl
      | leaf u => cases hr2
      | set u l => cases hr2
      | use l => cases hr2

theorem ok_StretchPresent {f : Addr} {fd : FuncData} (F : Fun K "present" "Stretch.present" sStretchPresent f fd) (T : Txt K mg CN CS) (mIsPresent : Md P w K mg base CS "is_present" PStretchIsPresent 1 (spIsPresent CS)) : FnOk P w K mg base CX0 2 f fd PStretchPresent (spPresent CS) := by
  refine F.ok scStretchPresent (fun vs H Q E h => ?_) (fun cdv A outer s H vs Q E hr h => ?_)
  · obtain ⟨x, rows, out, j, rfl, ⟨dx, vp, ro, oo, sp, np, nk, as, S, hvp⟩, hs, q⟩ := h
    rfl
  · obtain ⟨x, rows, out, j, rfl, ⟨dx, vp, ro, oo, sp, np, nk, as, S, hvp⟩, hs, q⟩ := h
    refine ⟨_, (pss_one (ps_ret (pe_lock (pe_lc (own := [("value", 2)]) (g := gName 2) rfl scStretchPresent.nd (pi_keys (pe_fld (pv 0) rfl)) (blkOk_by (own := [("value", 2)]) (N := NStretchPresent) (sc := defScope sStretchPresent) (by decide +kernel)) (fun _ _ _ _ _ => (pg_name (i := 2) scStretchPresent.nd rfl (.inl rfl))) (fun _ _ _ _ _ => (pts_one (pt_val (pe_meth (pv 0) T.clStretch mIsPresent.M mIsPresent.G (hr.mono (by decide)) mIsPresent.b .nil pass0 (pa_cons (pv 2) (pa_cons (pv 1) pa_nil)))))) (fun _ _ _ _ _ => (pv 2)))))), ?_⟩
    have hrl := good_rl S.good
    have hkl : (kvP (LK.places rows)).length = (LK.order rows).length := by rw [kvP_len]; unfold LK.order; rw [List.length_map]
    have hget : ∀ (i : Nat) (k : Key) (u : V), (kvP (LK.places rows))[i]? = some (k, u) → ∃ v, (LK.order rows)[i]? = some v ∧ k = .inl v := by
      intro i k u h
      unfold kvP at h
      rw [List.getElem?_map] at h
      cases e : (LK.places rows)[i]? with
      | none => rw [e] at h; cases h
      | some pr =>
        rw [e] at h
        cases h
        refine ⟨pr.1, ?_, rfl⟩
        unfold LK.order
        rw [List.getElem?_map, e]; rfl
    have eg := given_filter (kvs := kvP (LK.places rows)) (f := fun i => (LK.sysOf rows out).here ((LK.order rows).getD i 0) j) (v := fun i => V.int ((LK.order rows).getD i 0)) (l := LK.order rows) (g := fun v => (LK.sysOf rows out).here v j) hkl
      (fun i x h => by rw [List.getD_eq_getElem?_getD, h]; rfl) (fun i x h => by rw [List.getD_eq_getElem?_getD, h]; rfl)
    refine s_retL (xs := ((LK.sysOf rows out).present j).map V.int) ?_ fun p H1 hp e1 h1 => q p H1 hp e1 h1
    show EvL _ _ H (((LK.order rows).filter fun v => (LK.sysOf rows out).here v j).map V.int)
    rw [← eg]
    refine el_lcK _ _ hvp (fun od => f_vp T (S.lock hvp od) (ev_var rfl)) (by omega) (fun _ => rfl) (fun i k u od H1 e1 hi => ?_) (fun i k u od H1 e1 hi _ => ?_)
    · obtain ⟨v, hv, rfl⟩ := hget i k u hi
      have SL := (S.lock hvp od).ex e1
      rw [List.getD_eq_getElem?_getD, hv]
      exact et_B (ev_meth (ev_var rfl) SL.ins (stF_no _ _ _ _ _ (by decide +kernel) (by decide +kernel) (by decide +kernel) (by decide +kernel) (by decide +kernel)) (ea_cons (ev_var rfl) (ea_cons (ev_var rfl) ea_nil)) fun H2 e Q' q' E' =>
        ⟨x, rows, out, v, j, rfl, ⟨dx, vp, ro, oo, sp, np, nk, as, SL.ex e⟩, List.mem_of_getElem? hv, hs, q'⟩)
    · obtain ⟨v, hv, rfl⟩ := hget i k u hi
      rw [List.getD_eq_getElem?_getD, hv]
      exact ev_var rfl
end
end LKW

/-! Stretch.__init__, points_of. -/
namespace LKW
open PySem PySem.Spec PyProof.Rows L2 Evl

theorem upd_keep {H : Hp} {x C dx b : Addr} {fs : List (Str × V)} {o u : HO} (hx : H x = some (.ins C dx fs)) (hb : H b = some u) (hn : u ≠ .ins C dx fs) : upd H x o b = some u := by
  rw [upd_ne (ne_of hb hx hn)]
  exact hb
def spPointsOf (C : Addr) : Sp := fun vs H Q _ => ∃ (x : Addr) (rows : List LK.Row) (out : List Int), vs = [.ref x] ∧ StU C H x rows out ∧ ∀ p H', H p = none → Ex H H' → PtsAt H' p (LK.sysOf rows out).points → Q (.ref p) H'
theorem rows_keep {H H' : Hp} {as : List Addr} {rows : List LK.Row} (h : RowsBy H as rows) (k : ∀ b u, H b = some u → (∀ C dx fs, u ≠ .ins C dx fs) → H' b = some u) : RowsBy H' as rows := by
  refine ⟨h.1, fun i b r h1 h2 => ?_⟩
  have q := h.2 i b r h1 h2
  cases r with
  | leaf v => exact k _ _ q (by intro _ _ _ z; cases z)
  | set v l => obtain ⟨t, q1, q2⟩ := q; exact ⟨t, k _ _ q1 (by intro _ _ _ z; cases z), k _ _ q2 (by intro _ _ _ z; cases z)⟩
  | use l => obtain ⟨t, q1, q2⟩ := q; exact ⟨t, k _ _ q1 (by intro _ _ _ z; cases z), k _ _ q2 (by intro _ _ _ z; cases z)⟩
  | stop l => obtain ⟨y, t, q1, q2⟩ := q; exact ⟨y, t, k _ _ q1 (by intro _ _ _ z; cases z), k _ _ q2 (by intro _ _ _ z; cases z)⟩

section
variable {P : Program} {w : World} {K : PySem.W.Frag} {mg : Str → Option Value} {base : Heap} {CN CS : Addr}

theorem ok_StretchInit {f : Addr} {fd : FuncData} {dvl : List V} {kwl : List (Str × V)} (F : FunD K "__init__" "Stretch.__init__" (defArgs sStretchInit) (defBody sStretchInit) (defScope sStretchInit) dvl kwl f fd) (T : Txt K mg CN CS) (dCheckOut : Df P w K mg base "check_out" PCheckOut 2 (spCheckOut)) (dLastNeeds : Df P w K mg base "last_needs" PLastNeeds 2 (spLastNeeds)) (dPlacesIn : Df P w K mg base "places_in" PPlacesIn 4 (spPlacesIn)) : FnOk P w K mg base CX0 5 f fd PStretchInit (spStretchInit CS) := by
  refine fnD_ok F scStretchInit (fun vs H Q E h => ?_) (fun cdv A outer s H vs Q E hr h => ?_)
  · obtain ⟨H0, x, dx, a, o, rows, out, rfl, e0, h0x, hx, hR, ho, hg, hfit, q⟩ := h
    rfl
  · obtain ⟨H0, x, dx, a, o, rows, out, rfl, e0, h0x, hx, hR, ho, hg, hfit, q⟩ := h
    refine ⟨_, (pss_cons (ps_fld (pv 0) (pe_call dPlacesIn.G (hr.mono (by decide)) (by rfl) dPlacesIn.g dPlacesIn.kp dPlacesIn.b .nil pass0 (pa_cons (pv 1) pa_nil)) rfl)
      (pss_cons (ps_expr (pe_call dCheckOut.G (hr.mono (by decide)) (by rfl) dCheckOut.g dCheckOut.kp dCheckOut.b .nil pass0 (pa_cons (pv 2) (pa_cons (pe_fld (pv 0) rfl) pa_nil))))
      (pss_cons (ps_fld (pv 0) (pe_callTy call_list_of (by rfl) T.m_list (by decide +kernel) (pa_cons (pv 1) pa_nil)) rfl)
      (pss_cons (ps_fld (pv 0) (pe_callTy call_list_of (by rfl) T.m_list (by decide +kernel) (pa_cons (pv 2) pa_nil)) rfl)
      (pss_cons (ps_fld (pv 0) (pe_lc (tt := tTest (tOp rEq (tOp (rIxT K) (tVar 4) (tC (.int 0))) (tC (.str "stop")))) (own := [("position", 3), ("row", 4)]) (g := gTup K 2 (gCons (gName 3) (gCons (gName 4) gNil))) rfl scStretchInit.nd (pi_enum (by rfl) T.m_enumerate (pa_cons (pv 1) pa_nil)) (blkOk_by (own := [("position", 3), ("row", 4)]) (N := NStretchInit) (sc := defScope sStretchInit) (by decide +kernel)) (fun _ _ _ _ _ => (pg_tup rfl (pgs_cons (pg_name (i := 3) scStretchInit.nd rfl (.inl rfl)) (pgs_cons (pg_name (i := 4) scStretchInit.nd rfl (.inl rfl)) pgs_nil)))) (fun _ _ _ _ _ => (pts_one (pt_cmpR op_eq (pe_ix ix_tup (pv 4) pe_int (fun _ _ => rfl)) (pe_globE (by rfl) T.gSTOP) (nomark _)))) (fun _ _ _ _ _ => (pv 3))) rfl)
      (pss_one (ps_fld (pv 0) (pe_call dLastNeeds.G (hr.mono (by decide)) (by rfl) dLastNeeds.g dLastNeeds.kp dLastNeeds.b .nil pass0 (pa_cons (pv 1) (pa_cons (pv 2) pa_nil))) rfl))))))), ?_⟩
    obtain ⟨as, ha, hby⟩ := hR
    have hlen := hby.1
    have hrl := hg.rl
    -- self.value_places = places_in(rows)
    refine q_fld (PV := fun v H => ∃ p, v = .ref p ∧ H p = some (.dK (kvP (LK.places rows)))) (EvN.toP (P := fun p H => H p = some (.dK (kvP (LK.places rows)))) (ev_callN (ea_cons (ev_var rfl) ea_nil) fun H1 e Q' q' E' => ⟨a, rows, rfl, RowsAt.ex ⟨as, ha, hby⟩ (e0.trans e), hg.valid, by omega, hfit, fun p H' hp e' h' => q' p H' hp e' h'⟩)) (ev_var rfl) hx T.clStretch T.nVp (by simp) ?_
    rintro _ H1 H2 e1 ⟨vp, rfl, hvp⟩ e2
    have E2 := (e0.trans e1).trans e2
    have hx2 : H2 x = some (.ins CS dx []) := e2 _ _ (e1 _ _ hx)
    have E3 : Ex H0 (upd H2 x (.ins CS dx (putF "value_places" (.ref vp) []))) := Ex.mut E2 h0x
    have hx3 : (upd H2 x (.ins CS dx (putF "value_places" (.ref vp) []))) x = some (.ins CS dx [("value_places", .ref vp)]) := upd_same
    have hvp3 : (upd H2 x (.ins CS dx (putF "value_places" (.ref vp) []))) vp = some (.dK (kvP (LK.places rows))) := upd_keep hx2 (e2 _ _ hvp) (by intro z; cases z)
    generalize upd H2 x (.ins CS dx (putF "value_places" (.ref vp) [])) = H3 at E3 hx3 hvp3
    -- check_out(out, self.value_places)
    refine q_drop (v := .non) (ev_call (ea_cons (ev_var rfl) (ea_cons (ev_fld (ev_var rfl) hx3 T.clStretch T.nVp lk_hit) ea_nil)) fun H4 e Q' q' E' => ⟨o, vp, out, LK.places rows, rfl, e _ _ (E3 _ _ ho), .inl (e _ _ hvp3), fun v hv => ⟨order_nonneg hg.valid v (hg.outs v hv), hg.outs v hv⟩, q'⟩) fun H4 e4 => ?_
    have E4 := E3.trans e4
    have hx4 := e4 _ _ hx3
    have hvp4 := e4 _ _ hvp3
    -- self.own_rows = list(rows)
    refine q_fld (PV := fun v H => ∃ p, v = .ref p ∧ H p = some (.lst (as.map V.ref))) (EvN.toP (P := fun p H => H p = some (.lst (as.map V.ref))) (EvL.toN (el_list (ev_var rfl) (sq_of (E4 _ _ ha))))) (ev_var rfl) hx4 T.clStretch T.nRows (by simp) ?_
    rintro _ H5 H6 e5 ⟨ro, rfl, hro⟩ e6
    have hx6 := e6 _ _ (e5 _ _ hx4)
    have ep : putF "own_rows" (V.ref ro) [("value_places", V.ref vp)] = ([("value_places", V.ref vp), ("own_rows", V.ref ro)] : List (Str × V)) := by
      rw [putF_ne (g := "value_places") (by decide +kernel)]; rfl
    rw [ep]
    have E7 : Ex H0 (upd H6 x (.ins CS dx [("value_places", V.ref vp), ("own_rows", V.ref ro)])) := Ex.mut ((E4.trans e5).trans e6) h0x
    have hx7 : (upd H6 x (.ins CS dx [("value_places", V.ref vp), ("own_rows", V.ref ro)])) x = some (.ins CS dx [("value_places", V.ref vp), ("own_rows", V.ref ro)]) := upd_same
    have hvp7 : (upd H6 x (.ins CS dx [("value_places", V.ref vp), ("own_rows", V.ref ro)])) vp = _ := upd_keep hx6 (e6 _ _ (e5 _ _ hvp4)) (by intro z; cases z)
    have hro7 : (upd H6 x (.ins CS dx [("value_places", V.ref vp), ("own_rows", V.ref ro)])) ro = _ := upd_keep hx6 (e6 _ _ hro) (by intro z; cases z)
    generalize upd H6 x (.ins CS dx [("value_places", V.ref vp), ("own_rows", V.ref ro)]) = H7 at E7 hx7 hvp7 hro7
    -- self.own_out = list(out)
    refine q_fld (PV := fun v H => ∃ p, v = .ref p ∧ H p = some (.lst (out.map V.int))) (EvN.toP (P := fun p H => H p = some (.lst (out.map V.int))) (EvL.toN (el_list (ev_var rfl) (sq_of (E7 _ _ ho))))) (ev_var rfl) hx7 T.clStretch T.nOut (by simp) ?_
    rintro _ H8 H9 e8 ⟨oo, rfl, hoo⟩ e9
    have hx9 := e9 _ _ (e8 _ _ hx7)
    have ep : putF "own_out" (V.ref oo) [("value_places", V.ref vp), ("own_rows", V.ref ro)] = ([("value_places", V.ref vp), ("own_rows", V.ref ro), ("own_out", V.ref oo)] : List (Str × V)) := by
      rw [putF_ne (g := "value_places") (by decide +kernel), putF_ne (g := "own_rows") (by decide +kernel)]; rfl
    rw [ep]
    have E10 : Ex H0 (upd H9 x (.ins CS dx [("value_places", V.ref vp), ("own_rows", V.ref ro), ("own_out", V.ref oo)])) := Ex.mut ((E7.trans e8).trans e9) h0x
    have hx10 : (upd H9 x (.ins CS dx [("value_places", V.ref vp), ("own_rows", V.ref ro), ("own_out", V.ref oo)])) x = _ := upd_same
    have hvp10 : (upd H9 x (.ins CS dx [("value_places", V.ref vp), ("own_rows", V.ref ro), ("own_out", V.ref oo)])) vp = _ := upd_keep hx9 (e9 _ _ (e8 _ _ hvp7)) (by intro z; cases z)
    have hro10 : (upd H9 x (.ins CS dx [("value_places", V.ref vp), ("own_rows", V.ref ro), ("own_out", V.ref oo)])) ro = _ := upd_keep hx9 (e9 _ _ (e8 _ _ hro7)) (by intro z; cases z)
    have hoo10 : (upd H9 x (.ins CS dx [("value_places", V.ref vp), ("own_rows", V.ref ro), ("own_out", V.ref oo)])) oo = _ := upd_keep hx9 (e9 _ _ hoo) (by intro z; cases z)
    generalize upd H9 x (.ins CS dx [("value_places", V.ref vp), ("own_rows", V.ref ro), ("own_out", V.ref oo)]) = H10 at E10 hx10 hvp10 hro10 hoo10
    -- self.stop_places = [..]
    have hby10 := hby.ex E10
    have hst : EvL (tLc (iEnum K (tCons (tVar 1) tNil)) (gTup K 2 (gCons (gName 3) (gCons (gName 4) gNil))) (tTest (tOp rEq (tOp (rIxT K) (tVar 4) (tC (.int 0))) (tC (.str "stop")))) (tVar 3) [3, 4]) (start NStretchInit [.ref x, .ref a, .ref o]) H10 ((LK.stops rows).map fun n => V.int (n : Nat)) := by
      have g := given_stops (rows := rows) rows.length (Nat.le_refl _)
      rw [List.take_length, ← hlen, ← List.length_map (as := as) (f := V.ref)] at g
      rw [← g]
      refine el_lcE _ _ (ev_var rfl) (sq_of (E10 _ _ ha)) (by rw [List.length_map]; omega) (fun _ _ => rfl) (fun i y H11 e11 hi => ?_) (fun i y H11 e11 hi _ => ev_var rfl)
      obtain ⟨b, r, rfl, hb, hr', hrow⟩ := (hby10.ex e11).item hi
      show EvT _ _ H11 ((rows[i]?).bind LK.Row.ask).isSome
      rw [hr']
      cases r with
      | leaf v => exact et_test (ev_tag (b := false) rfl hrow rfl (by decide +kernel))
      | set v l => obtain ⟨t, h1, _⟩ := hrow; exact et_test (ev_tag (b := false) rfl h1 rfl (by decide +kernel))
      | use l => obtain ⟨t, h1, _⟩ := hrow; exact et_test (ev_tag (b := false) rfl h1 rfl (by decide +kernel))
      | stop l => obtain ⟨z, t, h1, _⟩ := hrow; exact et_test (ev_tag (b := true) rfl h1 rfl (by decide +kernel))
    refine q_fld (PV := fun v H => ∃ p, v = .ref p ∧ H p = some (.lst ((LK.stops rows).map fun n => V.int (n : Nat)))) (EvN.toP (P := fun p H => H p = some (.lst ((LK.stops rows).map fun n => V.int (n : Nat)))) (EvL.toN hst)) (ev_var rfl) hx10 T.clStretch T.nSp (by simp) ?_
    rintro _ H11 H12 e11 ⟨sp, rfl, hsp⟩ e12
    have hx12 := e12 _ _ (e11 _ _ hx10)
    have ep : putF "stop_places" (V.ref sp) [("value_places", V.ref vp), ("own_rows", V.ref ro), ("own_out", V.ref oo)] = ([("value_places", V.ref vp), ("own_rows", V.ref ro), ("own_out", V.ref oo), ("stop_places", V.ref sp)] : List (Str × V)) := by
      rw [putF_ne (g := "value_places") (by decide +kernel), putF_ne (g := "own_rows") (by decide +kernel), putF_ne (g := "own_out") (by decide +kernel)]; rfl
    rw [ep]
    have E13 : Ex H0 (upd H12 x (.ins CS dx [("value_places", V.ref vp), ("own_rows", V.ref ro), ("own_out", V.ref oo), ("stop_places", V.ref sp)])) := Ex.mut ((E10.trans e11).trans e12) h0x
    have hx13 : (upd H12 x (.ins CS dx [("value_places", V.ref vp), ("own_rows", V.ref ro), ("own_out", V.ref oo), ("stop_places", V.ref sp)])) x = _ := upd_same
    have hvp13 : (upd H12 x (.ins CS dx [("value_places", V.ref vp), ("own_rows", V.ref ro), ("own_out", V.ref oo), ("stop_places", V.ref sp)])) vp = _ := upd_keep hx12 (e12 _ _ (e11 _ _ hvp10)) (by intro z; cases z)
    have hro13 : (upd H12 x (.ins CS dx [("value_places", V.ref vp), ("own_rows", V.ref ro), ("own_out", V.ref oo), ("stop_places", V.ref sp)])) ro = _ := upd_keep hx12 (e12 _ _ (e11 _ _ hro10)) (by intro z; cases z)
    have hoo13 : (upd H12 x (.ins CS dx [("value_places", V.ref vp), ("own_rows", V.ref ro), ("own_out", V.ref oo), ("stop_places", V.ref sp)])) oo = _ := upd_keep hx12 (e12 _ _ (e11 _ _ hoo10)) (by intro z; cases z)
    have hsp13 : (upd H12 x (.ins CS dx [("value_places", V.ref vp), ("own_rows", V.ref ro), ("own_out", V.ref oo), ("stop_places", V.ref sp)])) sp = _ := upd_keep hx12 (e12 _ _ hsp) (by intro z; cases z)
    generalize upd H12 x (.ins CS dx [("value_places", V.ref vp), ("own_rows", V.ref ro), ("own_out", V.ref oo), ("stop_places", V.ref sp)]) = H13 at E13 hx13 hvp13 hro13 hoo13 hsp13
    -- self.need_places = last_needs(rows, out)
    refine s_fld (PV := fun v H => ∃ p nk, v = .ref p ∧ H p = some (.dK nk) ∧ NeedIs nk (LK.needAll rows out)) (fun H14 e14 Q' q' => ev_callN (P := fun p H => ∃ nk, H p = some (.dK nk) ∧ NeedIs nk (LK.needAll rows out)) (ea_cons (ev_var rfl) (ea_cons (ev_var rfl) ea_nil)) (fun H15 e Q' q' E' => ⟨a, o, rows, out, rfl, RowsAt.ex ⟨as, E13 _ _ ha, hby.ex E13⟩ e, e _ _ (E13 _ _ ho), hg.rl, hg.nl, hg.ol, fun p H' nk hp e' h' hn => q' p H' hp e' ⟨nk, h', hn⟩⟩) H14 e14 Q' fun p H15 _ e15 ⟨nk, h1, h2⟩ => q' _ H15 e15 ⟨p, nk, rfl, h1, h2⟩) (ev_var rfl) hx13 T.clStretch T.nNp (by simp) ?_
    rintro _ H14 H15 e14 ⟨np, nk, rfl, hnp, hnk⟩ e15
    have hx15 := e15 _ _ (e14 _ _ hx13)
    have ep : putF "need_places" (V.ref np) [("value_places", V.ref vp), ("own_rows", V.ref ro), ("own_out", V.ref oo), ("stop_places", V.ref sp)] = stF vp ro oo sp np := by
      rw [putF_ne (g := "value_places") (by decide +kernel), putF_ne (g := "own_rows") (by decide +kernel), putF_ne (g := "own_out") (by decide +kernel), putF_ne (g := "stop_places") (by decide +kernel)]; rfl
    rw [ep]
    have E16 : Ex H0 (upd H15 x (.ins CS dx (stF vp ro oo sp np))) := Ex.mut ((E13.trans e14).trans e15) h0x
    have hvp16 : (upd H15 x (.ins CS dx (stF vp ro oo sp np))) vp = _ := upd_keep hx15 (e15 _ _ (e14 _ _ hvp13)) (by intro z; cases z)
    refine q _ E16 ⟨dx, vp, ro, oo, sp, np, nk, as, ⟨hg, upd_same, .inl hvp16, upd_keep hx15 (e15 _ _ (e14 _ _ hro13)) (by intro z; cases z), hby.ex E16, upd_keep hx15 (e15 _ _ (e14 _ _ hoo13)) (by intro z; cases z), upd_keep hx15 (e15 _ _ (e14 _ _ hsp13)) (by intro z; cases z), .inl (upd_keep hx15 (e15 _ _ hnp) (by intro z; cases z)), hnk⟩, hvp16⟩

def ptsTo (S : LK.Sys) (n : Nat) : List LK.Pt := (List.range n).flatMap fun s => (S.present s).map fun v => (v, s)
theorem ptsTo_succ (S : LK.Sys) (n : Nat) : ptsTo S (n + 1) = ptsTo S n ++ (S.present n).map fun v => (v, n) := by
  unfold ptsTo
  rw [List.range_succ, List.flatMap_append]
  simp
theorem PtsBy.keep {H H' : Hp} {as : List Addr} {ps : List LK.Pt} (h : PtsBy H as ps) (k : ∀ b xs, H b = some (.tup xs) → H' b = some (.tup xs)) : PtsBy H' as ps := ⟨h.1, fun i b p h1 h2 => k b _ (h.2 i b p h1 h2)⟩
theorem tup_keep {H : Hp} {l b : Addr} {ys xs zs : List V} (hl : H l = some (.lst ys)) (hb : H b = some (.tup xs)) : upd H l (.lst zs) b = some (.tup xs) := by
  rw [upd_ne (ne_of hb hl (by intro z; cases z))]
  exact hb
/-- xs.extend(e) -/
theorem s_ext {K : PySem.W.Frag} {σ : L2.St} {H : Hp} {ta te : TE} {D : Ends} {l : Addr} {xs : List V} {Pn : Addr → Hp → Prop} (hl : H l = some (.lst xs)) (ha : Ev ta σ H (.ref l)) (h : EvN te σ H Pn)
    (hP : ∀ p H1, Pn p H1 → ∃ ys, H1 p = some (.lst ys) ∧ xs.length + ys.length ≤ 100000) (k : ∀ p H1 ys, H p = none → Ex H H1 → Pn p H1 → H1 p = some (.lst ys) → D.nx σ (upd H1 l (.lst (xs ++ ys)))) :
    tDrop (tBM K "list" rExtend ta (tCons te tNil)) D σ H := ha H (Ex.refl H) _ fun H1 e1 =>
  ⟨Or.inl ⟨rfl, xs, sq_of (e1 l _ hl)⟩, h H1 e1 _ fun p H2 hp e2 h2 => by
    obtain ⟨ys, hy, hz⟩ := hP p H2 h2
    exact ⟨l, p, xs, ys, rfl, rfl, e2 l _ (e1 l _ hl), hy, sz_of hz, k p H2 ys (fresh_back e1 hp) (e1.trans e2) h2 hy⟩⟩

theorem ok_PointsOf {f : Addr} {fd : FuncData} (F : Fun K "points_of" "points_of" sPointsOf f fd) (T : Txt K mg CN CS) (mPresent : Md P w K mg base CS "present" PStretchPresent 2 (spPresent CS)) (mStops : Md P w K mg base CS "stops" PStretchStops 1 (spStops CS)) : FnOk P w K mg base CX0 3 f fd PPointsOf (spPointsOf CS) := by
  refine F.ok scPointsOf (fun vs H Q E h => ?_) (fun cdv A outer s H vs Q E hr h => ?_)
  · obtain ⟨x, rows, out, rfl, S, q⟩ := h
    rfl
  · obtain ⟨x, rows, out, rfl, S, q⟩ := h
    refine ⟨_, (pss_cons (ps_set (i := 1) scPointsOf.nd rfl (.inl rfl) (pe_lst pa_nil))
      (pss_cons (ps_for PassesOwn.never rfl (pi_range1 (by rfl) T.m_range (pa_cons (pe_callB call_len_seq (by rfl) T.m_len (by decide +kernel) (pa_cons (pe_meth0 (pv 0) T.clStretch mStops.M mStops.G (hr.mono (by decide)) mStops.b .nil pass0) pa_nil)) pa_nil)) (pg_name (i := 2) scPointsOf.nd rfl (.inr rfl)) (pss_one (ps_expr (pe_bm PySem.F.plainAttrs_list PySem.F.slot_list_extend PySem.F.type_list_extend mt_extend (pv 1) (pa_cons (pe_lc (own := [("value", 3)]) (g := gName 3) (tt := tYes) rfl scPointsOf.nd (pi_list (pe_meth (pv 0) T.clStretch mPresent.M mPresent.G (hr.mono (by decide)) mPresent.b .nil pass0 (pa_cons (pv 2) pa_nil))) (blkOk_by (own := [("value", 3)]) (N := NPointsOf) (sc := defScope sPointsOf) (by decide +kernel)) (fun _ _ _ _ _ => (pg_name (i := 3) scPointsOf.nd rfl (.inl rfl))) (fun _ _ _ _ _ => pts_nil) (fun _ _ _ _ _ => (pe_tup (pa_cons (pv 3) (pa_cons (pv 2) pa_nil))))) pa_nil)))))
      (pss_one (ps_ret (pv 1))))), ?_⟩
    have hg := S.at_.good
    have hst := good_stops hg
    have hrl := good_rl hg
    have plen : ∀ j, ((LK.sysOf rows out).present j).length ≤ 20 := fun j => Nat.le_trans (List.length_filter_le _ _) hrl
    have ptl : ∀ n, (ptsTo (LK.sysOf rows out) n).length ≤ n * 20 := by
      intro n
      induction n with
      | zero => simp [ptsTo]
      | succ n ih => rw [ptsTo_succ, List.length_append, List.length_map]; have := plen n; omega
    refine q_asgL (el_lst ea_nil (by simp)) fun p H1 hp e1 h1 => ?_
    have S1 := S.ex e1
    obtain ⟨dx, vp, ro, oo, sp, np, nk, as, SA, hvp⟩ := S
    have nos : ∀ m : Str, (m == "value_places") = false → (m == "own_rows") = false → (m == "own_out") = false → (m == "stop_places") = false → (m == "need_places") = false → (stF vp ro oo sp np).lookup m = none := fun m a b c d e => stF_no _ _ _ _ _ a b c d e
    refine q_forR1 (n := ((LK.stops rows).length : Nat)) (ea_cons (ev_lenP (PV := fun v H => ∃ p xs, v = .ref p ∧ H p = some (.lst xs) ∧ xs.length = (LK.stops rows).length) (ev_methP (ev_var rfl) (e1 _ _ SA.ins) (nos "stops" (by decide +kernel) (by decide +kernel) (by decide +kernel) (by decide +kernel) (by decide +kernel)) ea_nil fun H2 e Q' q' E' =>
        ⟨x, rows, out, rfl, (S1.ex e).at_, fun p' H' xs _ e' h' hl => q' _ H' e' ⟨p', xs, rfl, h', hl⟩⟩) (fun v H ⟨p', xs, e, h', hl⟩ => ⟨p', xs, e, .inl (sq_of h'), hl⟩)) ea_nil) (by omega)
      (fun i σ' H' => ∃ y2 y3, σ' = [some (.ref x), some (.ref p), y2, y3] ∧ Ex H H' ∧ ∃ as, H' p = some (.lst (as.map V.ref)) ∧ PtsBy H' as (ptsTo (LK.sysOf rows out) i)) ?_ ?_ ?_
    · intro H2 e2
      exact ⟨none, none, rfl, e1.trans e2, [], e2 p _ h1, rfl, fun i b p' h _ => by simp at h⟩
    · rintro i σ' H' hi ⟨y2, y3, rfl, ex, as', hpl, hby⟩
      have hi' : i < (LK.stops rows).length := by omega
      have Si := (show StU CS H x rows out from ⟨dx, vp, ro, oo, sp, np, nk, as, SA, hvp⟩).ex ex
      have hlen := hby.1
      refine s_ext (Pn := LcOut H' (fun j a H1 => ∃ v, ((LK.sysOf rows out).present i)[j]? = some v ∧ IsPt H1 a (v, i)) ((LK.sysOf rows out).present i).length) hpl (ev_var rfl) ?_ ?_ ?_
      · rw [← List.length_map (as := (LK.sysOf rows out).present i) (f := V.int)]
        refine en_lcNL _ (EvN.toL (ev_methN (ev_var rfl) (ex _ _ SA.ins) (nos "present" (by decide +kernel) (by decide +kernel) (by decide +kernel) (by decide +kernel) (by decide +kernel)) (ea_cons (ev_var rfl) ea_nil) fun H2 e Q' q' E' => ⟨x, rows, out, i, rfl, Si.ex e, hi', fun p' H3 hp' e' h' => q' p' H3 hp' e' h'⟩)) (by rw [List.length_map]; have := plen i; omega) (fun _ => rfl) ?_ ?_ ?_ ?_
        · rintro j a H2 ⟨v, _, h⟩ z
          rw [show H2 a = _ from h] at z
          cases z
        · rintro j a H2 H3 e ⟨v, hv, h⟩
          exact ⟨v, hv, e a _ h⟩
        · rintro D j a H2 xs ys _ _ h2 hne ⟨v, hv, h⟩
          exact ⟨v, hv, by show upd H2 D _ a = _; rw [upd_ne hne]; exact h⟩
        · intro j y H2 e2 hy
          rw [List.getElem?_map] at hy
          cases ev : ((LK.sysOf rows out).present i)[j]? with
          | none => rw [ev] at hy; cases hy
          | some v =>
            rw [ev] at hy
            cases hy
            intro H3 e3 Q' q'
            exact (eu_tup (vs := [.int v, .int (i : Nat)]) (ea_cons (ev_var rfl) (ea_cons (ev_var rfl) ea_nil)) (by simp)) H3 e3 Q' fun p' H4 hp' e4 h4 => q' p' H4 hp' e4 ⟨v, rfl, h4⟩
      · rintro p' H2 ⟨ps, h1', h2', _⟩
        refine ⟨_, h1', ?_⟩
        have := ptl i
        have := plen i
        rw [List.length_map, List.length_map, h2', hlen]
        omega
      · rintro p' H2 ys hp' e2 ⟨ps, h1', h2', h3', _⟩ hys
        rw [h1'] at hys
        cases hys
        have hp2 := e2 p _ hpl
        refine ⟨_, _, rfl, Ex.mut (ex.trans e2) hp, as' ++ ps, by rw [upd_same, List.map_append], ?_⟩
        rw [ptsTo_succ]
        refine PtsBy.append ((hby.ex e2).keep fun b xs hb => tup_keep hp2 hb) ⟨by rw [List.length_map, h2'], fun j b pt hb hpt => ?_⟩
        obtain ⟨v, hv, hpt'⟩ := h3' j b hb
        rw [List.getElem?_map, hv] at hpt
        cases hpt
        exact tup_keep hp2 hpt'
    · rintro σ' H' ⟨y2, y3, rfl, ex, as', hpl, hby⟩
      refine s_ret (ev_var rfl) fun H2 e2 => q p H2 hp (ex.trans e2) ⟨as', e2 p _ hpl, ?_⟩
      have := hby.ex e2
      exact this
end
end LKW

/-! Network: __init__, connect, next_node. -/
namespace LKW
open PySem PySem.Spec PyProof.Rows L2 Evl

def ntF (le lf la : Addr) : List (Str × V) := [("edges", V.ref le), ("flows", V.ref lf), ("edges_at", V.ref la)]
section
variable (le lf la : Addr)
theorem ntF_le : (ntF le lf la).lookup ("edges" : Str) = some (V.ref le) := lk_hit
theorem ntF_lf : (ntF le lf la).lookup ("flows" : Str) = some (V.ref lf) := (lk_cons (f := "edges") (g := "flows") (by decide +kernel)).trans lk_hit
theorem ntF_la : (ntF le lf la).lookup ("edges_at" : Str) = some (V.ref la) := (lk_cons (f := "edges") (g := "edges_at") (by decide +kernel)).trans ((lk_cons (f := "flows") (g := "edges_at") (by decide +kernel)).trans lk_hit)
theorem ntF_no {m : Str} (h1 : (m == "edges") = false) (h2 : (m == "flows") = false) (h3 : (m == "edges_at") = false) : (ntF le lf la).lookup m = none := (lk_cons h1).trans ((lk_cons h2).trans ((lk_cons h3).trans lk_nil))
end
def eTup (e : LK.Edge) : List V := [.int e.1, .int e.2.1, .int e.2.2]
/-- a network: all that is its own is new over H0 -/
structure NetA (C : Addr) (H0 H : Hp) (x : Addr) (N : Nat) (E : List LK.Edge) (F : List Int) (g : Nat → List Nat) (dx le lf la : Addr) (ts as : List Addr) : Prop where
  ex : Ex H0 H
  fx : H0 x = none
  fe : H0 le = none
  ff : H0 lf = none
  fa : ∀ a ∈ as, H0 a = none
  ins : H x = some (.ins C dx (ntF le lf la))
  hle : H le = some (.lst (ts.map V.ref))
  tl : ts.length = E.length
  tt : ∀ (i : Nat) (t : Addr) (e : LK.Edge), ts[i]? = some t → E[i]? = some e → H t = some (.tup (eTup e))
  hlf : H lf = some (.lst (F.map V.int))
  fl : F.length = E.length
  hla : H la = some (.lst (as.map V.ref))
  al : as.length = N
  at_ : ∀ (i : Nat) (a : Addr), as[i]? = some a → H a = some (.lst ((g i).map fun n => V.int (n : Nat)))
  nd : as.Nodup
  n1 : le ≠ lf
  n2 : le ≠ la
  n3 : lf ≠ la
  n4 : ∀ a ∈ as, a ≠ le ∧ a ≠ lf ∧ a ≠ la
def NetAt (C : Addr) (H0 H : Hp) (x : Addr) (N : Nat) (E : List LK.Edge) (F : List Int) : Prop := ∃ dx le lf la ts as, NetA C H0 H x N E F (fun i => LK.adj E (i : Nat)) dx le lf la ts as
theorem NetA.mono {C : Addr} {H0 H H' : Hp} {x : Addr} {N : Nat} {E : List LK.Edge} {F : List Int} {g : Nat → List Nat} {dx le lf la : Addr} {ts as : List Addr} (h : NetA C H0 H x N E F g dx le lf la ts as) (e : Ex H H') : NetA C H0 H' x N E F g dx le lf la ts as :=
  { h with ex := h.ex.trans e, ins := e _ _ h.ins, hle := e _ _ h.hle, tt := fun i t ed a b => e _ _ (h.tt i t ed a b), hlf := e _ _ h.hlf, hla := e _ _ h.hla, at_ := fun i a b => e _ _ (h.at_ i a b) }
theorem NetAt.mono {C : Addr} {H0 H H' : Hp} {x : Addr} {N : Nat} {E : List LK.Edge} {F : List Int} (h : NetAt C H0 H x N E F) (e : Ex H H') : NetAt C H0 H' x N E F :=
  let ⟨dx, le, lf, la, ts, as, z⟩ := h; ⟨dx, le, lf, la, ts, as, z.mono e⟩
theorem NetAt.base {C : Addr} {H0 H : Hp} {x : Addr} {N : Nat} {E : List LK.Edge} {F : List Int} (h : NetAt C H0 H x N E F) : Ex H0 H :=
  let ⟨_, _, _, _, _, _, z⟩ := h; z.ex
theorem NetAt.fl {C : Addr} {H0 H : Hp} {x : Addr} {N : Nat} {E : List LK.Edge} {F : List Int} (h : NetAt C H0 H x N E F) : F.length = E.length :=
  let ⟨_, _, _, _, _, _, z⟩ := h; z.fl

def spNetworkInit (C : Addr) : Sp := fun vs H Q _ => ∃ (H0 : Hp) (x dx : Addr) (n : Nat), vs = [.ref x, .int (n : Nat)] ∧ Ex H0 H ∧ H0 x = none ∧ H x = some (.ins C dx []) ∧ n ≤ 1000 ∧ ∀ H', NetAt C H0 H' x n [] [] → Q .non H'
def spConnect (C : Addr) : Sp := fun vs H Q _ => ∃ (H0 : Hp) (x : Addr) (N : Nat) (E : List LK.Edge) (F : List Int) (a b c : Int), vs = [.ref x, .int a, .int b, .int c] ∧ NetAt C H0 H x N E F ∧ (0 ≤ a ∧ a < N) ∧ (0 ≤ b ∧ b < N) ∧ E.length ≤ 5000 ∧
  ∀ H', NetAt C H0 H' x N (E ++ [(a, b, c)]) (F ++ [0]) → Q .non H'
def optV : Option Int → V
  | none => .non
  | some y => .int y
def spNextNode (C : Addr) : Sp := fun vs H Q _ => ∃ (H0 : Hp) (x : Addr) (N : Nat) (E : List LK.Edge) (F : List Int) (nd : Int) (i : Nat), vs = [.ref x, .int nd, .int (i : Nat)] ∧ NetAt C H0 H x N E F ∧ i < E.length ∧ RetV (optV (LK.next E F nd i)) H Q

section
variable {K : PySem.W.Frag} {σ : L2.St} {H H' : Hp} {ta tb te tx tv : TE} {D : Ends} {tu tw tz : TS} {P : Addr → Hp → Prop}
theorem s_fldN {a C dx : Addr} {f : Str} {fs : List (Str × V)} (hv : EvN tv σ H P) (ha : Ev ta σ H (.ref a)) (ho : H a = some (.ins C dx fs)) (hc : Cls K C) (hn : NoAttr K C f) (hl : fs.length < 1000)
    (k : ∀ p H1 H2, H p = none → Ex H H1 → P p H1 → Ex H1 H2 → D.nx σ (upd H2 a (.ins C dx (putF f (.ref p) fs)))) : sFld K ta tv f D σ H := hv H (Ex.refl H) _ fun p H1 hp e1 p1 => ha H1 e1 _ fun H2 e2 =>
  ⟨a, C, dx, fs, rfl, e2 a _ (e1 a _ ho), hc, hn, hl, k p H1 H2 hp e1 p1 e2⟩
theorem q_fldN {a C dx : Addr} {f : Str} {fs : List (Str × V)} (hv : EvN tv σ H P) (ha : Ev ta σ H (.ref a)) (ho : H a = some (.ins C dx fs)) (hc : Cls K C) (hn : NoAttr K C f) (hl : fs.length < 1000)
    (k : ∀ p H1 H2, H p = none → Ex H H1 → P p H1 → Ex H1 H2 → tz D σ (upd H2 a (.ins C dx (putF f (.ref p) fs)))) : tSeq (sFld K ta tv f) tz D σ H := s_fldN (D := { D with nx := tz D }) hv ha ho hc hn hl k
end

section
variable {P : Program} {w : World} {K : PySem.W.Frag} {mg : Str → Option Value} {base : Heap} {CN CS : Addr}

theorem ok_NetworkInit {f : Addr} {fd : FuncData} (F : Fun K "__init__" "Network.__init__" sNetworkInit f fd) (T : Txt K mg CN CS)  : FnOk P w K mg base CX0 1 f fd PNetworkInit (spNetworkInit CN) := by
  refine F.ok scNetworkInit (fun vs H Q E h => ?_) (fun cdv A outer s H vs Q E hr h => ?_)
  · obtain ⟨H0, x, dx, n, rfl, e0, h0x, hx, hn, q⟩ := h
    rfl
  · obtain ⟨H0, x, dx, n, rfl, e0, h0x, hx, hn, q⟩ := h
    refine ⟨_, (pss_cons (ps_fld (pv 0) (pe_lst pa_nil) rfl)
      (pss_cons (ps_fld (pv 0) (pe_lst pa_nil) rfl)
      (pss_one (ps_fld (pv 0) (pe_lc (own := [("node", 2)]) (g := gName 2) (tt := tYes) rfl scNetworkInit.nd (pi_range1 (by rfl) T.m_range (pa_cons (pv 1) pa_nil)) (blkOk_by (own := [("node", 2)]) (N := NNetworkInit) (sc := defScope sNetworkInit) (by decide +kernel)) (fun _ _ _ _ _ => (pg_name (i := 2) scNetworkInit.nd rfl (.inl rfl))) (fun _ _ _ _ _ => pts_nil) (fun _ _ _ _ _ => (pe_lst pa_nil))) rfl)))), ?_⟩
    refine q_fldN (EvL.toN (el_lst ea_nil (by simp))) (ev_var rfl) hx T.clNetwork T.nEdges (by simp) fun le H1 H2 fe e1 h1 e2 => ?_
    have hx2 := e2 _ _ (e1 _ _ hx)
    have E3 : Ex H0 (upd H2 x (.ins CN dx (putF "edges" (.ref le) []))) := Ex.mut ((e0.trans e1).trans e2) h0x
    have hx3 : (upd H2 x (.ins CN dx (putF "edges" (.ref le) []))) x = some (.ins CN dx [("edges", .ref le)]) := upd_same
    have hle3 : (upd H2 x (.ins CN dx (putF "edges" (.ref le) []))) le = some (.lst []) := upd_keep hx2 (e2 _ _ h1) (by intro z; cases z)
    generalize upd H2 x (.ins CN dx (putF "edges" (.ref le) [])) = H3 at E3 hx3 hle3
    refine q_fldN (EvL.toN (el_lst ea_nil (by simp))) (ev_var rfl) hx3 T.clNetwork T.nFlows (by simp) fun lf H4 H5 ff e4 h4 e5 => ?_
    have hx5 := e5 _ _ (e4 _ _ hx3)
    have ep : putF "flows" (V.ref lf) [("edges", V.ref le)] = ([("edges", V.ref le), ("flows", V.ref lf)] : List (Str × V)) := by
      rw [putF_ne (g := "edges") (by decide +kernel)]; rfl
    rw [ep]
    have E6 : Ex H0 (upd H5 x (.ins CN dx [("edges", V.ref le), ("flows", V.ref lf)])) := Ex.mut ((E3.trans e4).trans e5) h0x
    have hx6 : (upd H5 x (.ins CN dx [("edges", V.ref le), ("flows", V.ref lf)])) x = _ := upd_same
    have hle6 : (upd H5 x (.ins CN dx [("edges", V.ref le), ("flows", V.ref lf)])) le = _ := upd_keep hx5 (e5 _ _ (e4 _ _ hle3)) (by intro z; cases z)
    have hlf6 : (upd H5 x (.ins CN dx [("edges", V.ref le), ("flows", V.ref lf)])) lf = _ := upd_keep hx5 (e5 _ _ h4) (by intro z; cases z)
    have n1 : le ≠ lf := fun z => by rw [← z, hle3] at ff; cases ff
    generalize upd H5 x (.ins CN dx [("edges", V.ref le), ("flows", V.ref lf)]) = H6 at E6 hx6 hle6 hlf6
    refine s_fldN (P := LcOut H6 (fun j q H1 => H1 q = some (.lst [])) (n : Int).toNat) (en_lcR _ (ea_cons (ev_var rfl) ea_nil) (by omega) (fun _ => rfl) (fun j q H1 h z => by rw [h] at z; cases z) (fun j q H1 H2 e h => e _ _ h) (fun D j q H1 xs ys _ _ _ hne h => by rw [upd_ne hne]; exact h) fun i H1 _ _ => EvL.toN (el_lst ea_nil (by simp))) (ev_var rfl) hx6 T.clNetwork T.nAt (by simp) ?_
    rintro la H7 H8 fa e7 ⟨ps, p1, p2, p3, p4, p5⟩ e8
    have hx8 := e8 _ _ (e7 _ _ hx6)
    have ep : putF "edges_at" (V.ref la) [("edges", V.ref le), ("flows", V.ref lf)] = ntF le lf la := by
      rw [putF_ne (g := "edges") (by decide +kernel), putF_ne (g := "flows") (by decide +kernel)]; rfl
    rw [ep]
    have en : (n : Int).toNat = n := by omega
    rw [en] at p2
    refine q _ ⟨dx, le, lf, la, [], ps, ⟨Ex.mut ((E6.trans e7).trans e8) h0x, h0x, ?_, ?_, ?_, upd_same, upd_keep hx8 (e8 _ _ (e7 _ _ hle6)) (by intro z; cases z), rfl, ?_, upd_keep hx8 (e8 _ _ (e7 _ _ hlf6)) (by intro z; cases z), rfl, upd_keep hx8 (e8 _ _ p1) (by intro z; cases z), p2, ?_, p4, n1, ?_, ?_, ?_⟩⟩
    · exact fresh_back e0 fe
    · exact fresh_back E3 ff
    · exact fun a ha => fresh_back E6 (p5 a ha).1
    · intro i t e h; simp at h
    · intro i a ha
      show _ = some (HO.lst [])
      exact upd_keep hx8 (e8 _ _ (p3 i a ha)) (by intro z; cases z)
    · intro z; rw [← z, hle6] at fa; cases fa
    · intro z; rw [← z, hlf6] at fa; cases fa
    · intro a ha
      obtain ⟨q1, q2⟩ := p5 a ha
      refine ⟨fun z => ?_, fun z => ?_, q2⟩
      · rw [z, hle6] at q1; cases q1
      · rw [z, hlf6] at q1; cases q1

section
variable {σ : L2.St} {H0 H : Hp} {x : Addr} {N : Nat} {E : List LK.Edge} {F : List Int} {g : Nat → List Nat} {dx le lf la : Addr} {ts as : List Addr} {ta tb : TE}
theorem f_edges (T : Txt K mg CN CS) (S : NetA CN H0 H x N E F g dx le lf la ts as) (h : Ev ta σ H (.ref x)) : Ev (tFld K ta "edges") σ H (.ref le) := ev_fld h S.ins T.clNetwork T.nEdges (ntF_le _ _ _)
theorem f_flows (T : Txt K mg CN CS) (S : NetA CN H0 H x N E F g dx le lf la ts as) (h : Ev ta σ H (.ref x)) : Ev (tFld K ta "flows") σ H (.ref lf) := ev_fld h S.ins T.clNetwork T.nFlows (ntF_lf _ _ _)
theorem f_at (T : Txt K mg CN CS) (S : NetA CN H0 H x N E F g dx le lf la ts as) (h : Ev ta σ H (.ref x)) : Ev (tFld K ta "edges_at") σ H (.ref la) := ev_fld h S.ins T.clNetwork T.nAt (ntF_la _ _ _)
/-- self.edges_at[node] -/
theorem f_atI (T : Txt K mg CN CS) (S : NetA CN H0 H x N E F g dx le lf la ts as) (h : Ev ta σ H (.ref x)) {i : Nat} (k : Ev tb σ H (.int (i : Nat))) {a : Addr} (ha : as[i]? = some a) : Ev (tOp (rIxL K) (tFld K ta "edges_at") tb) σ H (.ref a) :=
  ev_ixL (f_at T S h) k (sq_of S.hla) (atI_nat (by rw [List.getElem?_map, ha]; rfl))
theorem f_edge (T : Txt K mg CN CS) (S : NetA CN H0 H x N E F g dx le lf la ts as) (h : Ev ta σ H (.ref x)) {i : Nat} (k : Ev tb σ H (.int (i : Nat))) {t : Addr} (ht : ts[i]? = some t) : Ev (tOp (rIxL K) (tFld K ta "edges") tb) σ H (.ref t) :=
  ev_ixL (f_edges T S h) k (sq_of S.hle) (atI_nat (by rw [List.getElem?_map, ht]; rfl))
theorem f_flow (T : Txt K mg CN CS) (S : NetA CN H0 H x N E F g dx le lf la ts as) (h : Ev ta σ H (.ref x)) {i : Nat} (k : Ev tb σ H (.int (i : Nat))) {f : Int} (hf : F[i]? = some f) : Ev (tOp (rIxL K) (tFld K ta "flows") tb) σ H (.int f) :=
  ev_ixL (f_flows T S h) k (sq_of S.hlf) (atI_nat (by rw [List.getElem?_map, hf]; rfl))
/-- a number more in one list of numbers -/
theorem NetA.more (S : NetA CN H0 H x N E F g dx le lf la ts as) {i : Nat} {a : Addr} (ha : as[i]? = some a) (n : Nat) :
    NetA CN H0 (upd H a (.lst ((g i).map (fun n => V.int (n : Nat)) ++ [V.int (n : Nat)]))) x N E F (fun j => if j = i then g j ++ [n] else g j) dx le lf la ts as := by
  have ham := List.mem_of_getElem? ha
  have hal := S.at_ i a ha
  obtain ⟨a1, a2, a3⟩ := S.n4 a ham
  have nt : ∀ {b : Addr} {xs : List V}, H b = some (.tup xs) → b ≠ a := fun hb => ne_of hb hal (by intro z; cases z)
  refine { S with ex := Ex.mut S.ex (S.fa a ham), ins := ?_, hle := ?_, tt := ?_, hlf := ?_, hla := ?_, at_ := ?_ }
  · rw [upd_ne (ne_of S.ins hal (by intro z; cases z))]; exact S.ins
  · rw [upd_ne a1.symm]; exact S.hle
  · intro j t e h1 h2
    rw [upd_ne (nt (S.tt j t e h1 h2))]
    exact S.tt j t e h1 h2
  · rw [upd_ne a2.symm]; exact S.hlf
  · rw [upd_ne a3.symm]; exact S.hla
  · intro j b hb
    by_cases q : j = i
    · subst q
      rw [ha] at hb
      cases hb
      rw [upd_same, if_pos rfl, List.map_append]
      rfl
    · rw [if_neg q]
      have hne : b ≠ a := fun z => by
        subst z
        obtain ⟨l1, e1⟩ := List.getElem?_eq_some_iff.mp hb
        obtain ⟨l2, e2⟩ := List.getElem?_eq_some_iff.mp ha
        exact q ((List.getElem_inj S.nd).mp (e1.trans e2.symm))
      rw [upd_ne hne]
      exact S.at_ j b hb
end

theorem ok_NetworkConnect {f : Addr} {fd : FuncData} (F : Fun K "connect" "Network.connect" sNetworkConnect f fd) (T : Txt K mg CN CS)  : FnOk P w K mg base CX0 1 f fd PNetworkConnect (spConnect CN) := by
  refine F.ok scNetworkConnect (fun vs H Q E h => ?_) (fun cdv A outer s H vs Q E hr h => ?_)
  · obtain ⟨H0, x, N, E, F, a, b, c, rfl, ⟨dx, le, lf, la, ts, as, S⟩, ⟨a0, aN⟩, ⟨b0, bN⟩, hE, q⟩ := h
    rfl
  · obtain ⟨H0, x, N, E, F, a, b, c, rfl, ⟨dx, le, lf, la, ts, as, S⟩, ⟨a0, aN⟩, ⟨b0, bN⟩, hE, q⟩ := h
    refine ⟨_, (pss_cons (ps_expr (pe_bm PySem.F.plainAttrs_list PySem.F.slot_list_append PySem.F.type_list_append mt_append (pe_ix ix_list (pe_fld (pv 0) rfl) (pv 1) (fun _ _ => rfl)) (pa_cons (pe_callB call_len_seq (by rfl) T.m_len (by decide +kernel) (pa_cons (pe_fld (pv 0) rfl) pa_nil)) pa_nil)))
      (pss_cons (ps_expr (pe_bm PySem.F.plainAttrs_list PySem.F.slot_list_append PySem.F.type_list_append mt_append (pe_ix ix_list (pe_fld (pv 0) rfl) (pv 2) (fun _ _ => rfl)) (pa_cons (pe_callB call_len_seq (by rfl) T.m_len (by decide +kernel) (pa_cons (pe_fld (pv 0) rfl) pa_nil)) pa_nil)))
      (pss_cons (ps_expr (pe_bm PySem.F.plainAttrs_list PySem.F.slot_list_append PySem.F.type_list_append mt_append (pe_fld (pv 0) rfl) (pa_cons (pe_tup (pa_cons (pv 1) (pa_cons (pv 2) (pa_cons (pv 3) pa_nil)))) pa_nil)))
      (pss_one (ps_expr (pe_bm PySem.F.plainAttrs_list PySem.F.slot_list_append PySem.F.type_list_append mt_append (pe_fld (pv 0) rfl) (pa_cons pe_int pa_nil))))))), ?_⟩
    obtain ⟨i, rfl⟩ : ∃ i : Nat, a = (i : Nat) := ⟨a.toNat, by omega⟩
    obtain ⟨j, rfl⟩ : ∃ j : Nat, b = (j : Nat) := ⟨b.toNat, by omega⟩
    have hi : i < as.length := by rw [S.al]; omega
    have hj : j < as.length := by rw [S.al]; omega
    have gi := List.getElem?_eq_getElem hi
    have gj := List.getElem?_eq_getElem hj
    have adl : ∀ (y : Int), (LK.adj E y).length ≤ 2 * E.length := by
      have : ∀ (E : List LK.Edge) (n : Nat) (y : Int), (LK.adjFrom n E y).length ≤ 2 * E.length := by
        intro E
        induction E with
        | nil => intro n y; simp [LK.adjFrom]
        | cons e E ih =>
          intro n y
          have := ih (n + 1) y
          simp only [LK.adjFrom, List.length_append, List.length_cons]
          split <;> split <;> simp <;> omega
      exact fun y => this E 0 y
    -- self.edges_at[start].append(len(self.edges))
    refine q_app (S.at_ i _ gi) (f_atI T S (ev_var rfl) (ev_var rfl) gi) (ev_is (ev_len (f_edges T S (ev_var rfl)) (sq_of S.hle)) (by rw [List.length_map, S.tl])) (by rw [List.length_map]; have := adl (i : Nat); omega) fun H1 e1 => ?_
    have S1 := (S.mono e1).more gi E.length
    generalize upd H1 as[i] _ = H2 at S1 ⊢
    refine q_app (S1.at_ j _ gj) (f_atI T S1 (ev_var rfl) (ev_var rfl) gj) (ev_is (ev_len (f_edges T S1 (ev_var rfl)) (sq_of S1.hle)) (by rw [List.length_map, S1.tl])) (by
      rw [List.length_map]
      have := adl (j : Nat)
      split
      · rw [List.length_append]; simp; omega
      · omega) fun H3 e3 => ?_
    have S3 := (S1.mono e3).more gj E.length
    generalize upd H3 as[j] _ = H4 at S3 ⊢
    -- self.edges.append((start, end, bound))
    refine q_appU (xs := ts.map V.ref) (ys := eTup ((i : Nat), (j : Nat), c)) S3.hle (f_edges T S3 (ev_var rfl)) (eu_tup (ea_cons (ev_var rfl) (ea_cons (ev_var rfl) (ea_cons (ev_var rfl) ea_nil))) (by show 3 ≤ 100000; decide)) (by rw [List.length_map, S3.tl]; omega) fun t H5 ht e5 h5 => ?_
    have S5 := S3.mono e5
    have nt : ∀ {b : Addr} {xs : List V}, H5 b = some (.tup xs) → b ≠ le := fun hb => ne_of hb S5.hle (by intro z; cases z)
    have hlf6 : (upd H5 le (.lst (ts.map V.ref ++ [.ref t]))) lf = some (.lst (F.map V.int)) := by rw [upd_ne S5.n1.symm]; exact S5.hlf
    have hle6 : (upd H5 le (.lst (ts.map V.ref ++ [.ref t]))) le = some (.lst (ts.map V.ref ++ [.ref t])) := upd_same
    have hx6 : (upd H5 le (.lst (ts.map V.ref ++ [.ref t]))) x = some (.ins CN dx (ntF le lf la)) := by rw [upd_ne (ne_of S5.ins S5.hle (by intro z; cases z))]; exact S5.ins
    have hla6 : (upd H5 le (.lst (ts.map V.ref ++ [.ref t]))) la = some (.lst (as.map V.ref)) := by rw [upd_ne S5.n2.symm]; exact S5.hla
    have hat6 : ∀ (k : Nat) (d : Addr), as[k]? = some d → (upd H5 le (.lst (ts.map V.ref ++ [.ref t]))) d = some (.lst (((if k = j then (if k = i then LK.adj E (k : Nat) ++ [E.length] else LK.adj E (k : Nat)) ++ [E.length] else (if k = i then LK.adj E (k : Nat) ++ [E.length] else LK.adj E (k : Nat)))).map fun n => V.int (n : Nat))) := fun k d hk => by
      rw [upd_ne (S5.n4 d (List.mem_of_getElem? hk)).1]
      exact S5.at_ k d hk
    have htt6 : ∀ (k : Nat) (d : Addr) (e : LK.Edge), (ts ++ [t])[k]? = some d → (E ++ [((i : Int), (j : Int), c)])[k]? = some e → (upd H5 le (.lst (ts.map V.ref ++ [.ref t]))) d = some (.tup (eTup e)) := by
      intro k d e h1 h2
      have tl := S5.tl
      rcases Nat.lt_or_ge k ts.length with lt | ge
      · rw [List.getElem?_append_left lt] at h1
        rw [List.getElem?_append_left (by omega)] at h2
        have := S5.tt k d e h1 h2
        rw [upd_ne (nt this)]
        exact this
      · rw [List.getElem?_append_right ge] at h1
        rw [List.getElem?_append_right (by omega)] at h2
        have ek : k - ts.length = 0 := by
          rcases Nat.eq_zero_or_pos (k - ts.length) with z | z
          · exact z
          · rw [List.getElem?_eq_none (by simp; omega)] at h1; cases h1
        rw [ek] at h1
        rw [← tl, ek] at h2
        simp at h1 h2
        subst h1 h2
        rw [upd_ne (nt h5)]
        exact h5
    have E6 : Ex H0 (upd H5 le (.lst (ts.map V.ref ++ [.ref t]))) := Ex.mut S5.ex S5.fe
    generalize upd H5 le (.lst (ts.map V.ref ++ [.ref t])) = H6 at hlf6 hle6 hx6 hla6 hat6 htt6 E6 ⊢
    -- self.flows.append(0)
    refine s_app hlf6 (ev_fld (ev_var rfl) hx6 T.clNetwork T.nFlows (ntF_lf _ _ _)) ev_c (by rw [List.length_map, S5.fl]; omega) fun H7 e7 => ?_
    have hlf7 := e7 _ _ hlf6
    have nt7 : ∀ {b : Addr} {xs : List V}, H7 b = some (.tup xs) → b ≠ lf := fun hb => ne_of hb hlf7 (by intro z; cases z)
    refine q _ ⟨dx, le, lf, la, ts ++ [t], as, ⟨Ex.mut (E6.trans e7) S5.ff, S5.fx, S5.fe, S5.ff, S5.fa, ?_, ?_, ?_, ?_, ?_, ?_, ?_, S5.al, ?_, S5.nd, S5.n1, S5.n2, S5.n3, S5.n4⟩⟩
    · rw [upd_ne (ne_of (e7 _ _ hx6) hlf7 (by intro z; cases z))]; exact e7 _ _ hx6
    · rw [upd_ne S5.n1, List.map_append]; exact e7 _ _ hle6
    · rw [List.length_append, List.length_append, S5.tl]; rfl
    · intro k d e h1 h2
      have := e7 _ _ (htt6 k d e h1 h2)
      rw [upd_ne (nt7 this)]
      exact this
    · rw [upd_same, List.map_append]; rfl
    · rw [List.length_append, List.length_append, S5.fl]; rfl
    · rw [upd_ne S5.n3.symm]; exact e7 _ _ hla6
    · intro k d hk
      rw [upd_ne (S5.n4 d (List.mem_of_getElem? hk)).2.1, e7 _ _ (hat6 k d hk)]
      congr 3
      show _ = LK.adj (E ++ [((i : Int), (j : Int), c)]) (k : Nat)
      rw [LK.adj_snoc]
      show _ = LK.adj E (k : Nat) ++ ((if (i : Int) = (k : Nat) then [E.length] else []) ++ (if (j : Int) = (k : Nat) then [E.length] else []))
      by_cases q1 : k = i
      · subst q1
        by_cases q2 : k = j
        · subst q2; simp
        · have : ¬ (j : Int) = (k : Nat) := by omega
          simp [q2, this]
      · have h1 : ¬ (i : Int) = (k : Nat) := by omega
        by_cases q2 : k = j
        · subst q2; simp [q1, h1]
        · have : ¬ (j : Int) = (k : Nat) := by omega
          simp [q1, q2, h1, this]
end
end LKW

/-! Network: next_node, reached. -/
namespace LKW
open PySem PySem.Spec PyProof.Rows L2 Evl

/-- what found holds at a node -/
def FVal (H : Hp) (o : Option (Int × Nat)) (v : V) : Prop := match o with
  | none => v = .non
  | some (y, i) => ∃ t, v = .ref t ∧ H t = some (.tup [.int y, .int (i : Nat)])
def FBy (H : Hp) (kvs : List (Key × V)) (ks : List LK.FK) : Prop := kvs.length = ks.length ∧ ∀ (j : Nat) (k : Key) (v : V) (x : Int) (o : Option (Int × Nat)), kvs[j]? = some (k, v) → ks[j]? = some (x, o) → k = .inl x ∧ FVal H o v
def FoundAt (H : Hp) (d : Addr) (ks : List LK.FK) : Prop := ∃ kvs, H d = some (.dK kvs) ∧ FBy H kvs ks
theorem FVal.keep {H H' : Hp} {o : Option (Int × Nat)} {v : V} (h : FVal H o v) (k : ∀ b xs, H b = some (.tup xs) → H' b = some (.tup xs)) : FVal H' o v := by
  cases o with
  | none => exact h
  | some p => obtain ⟨t, h1, h2⟩ := h; exact ⟨t, h1, k _ _ h2⟩
theorem FBy.keep {H H' : Hp} {kvs : List (Key × V)} {ks : List LK.FK} (h : FBy H kvs ks) (k : ∀ b xs, H b = some (.tup xs) → H' b = some (.tup xs)) : FBy H' kvs ks :=
  ⟨h.1, fun j a v x o h1 h2 => let ⟨p, q⟩ := h.2 j a v x o h1 h2; ⟨p, q.keep k⟩⟩
theorem FoundAt.ex {H H' : Hp} {d : Addr} {ks : List LK.FK} (h : FoundAt H d ks) (e : Ex H H') : FoundAt H' d ks := let ⟨kvs, h1, h2⟩ := h; ⟨kvs, e _ _ h1, h2.keep fun b xs hb => e _ _ hb⟩
theorem valV_at {kvs : List (Key × V)} : ∀ {j : Nat} {k : Key} {v : V}, kvs[j]? = some (k, v) → (∀ (i : Nat) (k' : Key) (v' : V), i < j → kvs[i]? = some (k', v') → k' ≠ k) → valV kvs k = some v := by
  induction kvs with
  | nil => intro j k v h; simp at h
  | cons p r ih =>
    intro j k v h hn
    cases j with
    | zero =>
      simp at h
      subst h
      exact valV_pos rfl
    | succ j =>
      have h0 := hn 0 p.1 p.2 (by omega) rfl
      rw [valV_neg h0]
      exact ih (by simpa using h) fun i k' v' hi hk => hn (i + 1) k' v' (by omega) (by simpa using hk)
theorem valV_no {kvs : List (Key × V)} {k : Key} : (∀ p ∈ kvs, p.1 ≠ k) → valV kvs k = none := by
  induction kvs with
  | nil => intro _; rfl
  | cons p r ih =>
    intro h
    rw [valV_neg (h p (List.mem_cons_self ..))]
    exact ih fun q hq => h q (List.mem_cons_of_mem _ hq)
theorem FBy.out {H : Hp} {kvs : List (Key × V)} {ks : List LK.FK} (h : FBy H kvs ks) {x : Int} (hx : LK.inKs ks x = false) : valV kvs (.inl x) = none := by
  refine valV_no fun p hp q => ?_
  obtain ⟨j, hj⟩ := List.getElem?_of_mem hp
  have lt : j < ks.length := by rw [← h.1]; exact (List.getElem?_eq_some_iff.mp hj).1
  obtain ⟨e, _⟩ := h.2 j p.1 p.2 (ks[j]).1 (ks[j]).2 hj (List.getElem?_eq_getElem lt)
  have : LK.inKs ks x = true := LK.inKs_iff.mpr ⟨j, (ks[j]).2, by
    rw [List.getElem?_eq_getElem lt]
    have : (ks[j]).1 = x := by rw [e] at q; exact Sum.inl.inj q
    rw [← this]⟩
  rw [hx] at this
  cases this
theorem FBy.at_ {H : Hp} {kvs : List (Key × V)} {ks : List LK.FK} (h : FBy H kvs ks) (nd : (ks.map (·.1)).Nodup) {j : Nat} {x : Int} {o : Option (Int × Nat)} (hj : ks[j]? = some (x, o)) : ∃ v, valV kvs (.inl x) = some v ∧ FVal H o v := by
  have lt : j < kvs.length := by rw [h.1]; exact (List.getElem?_eq_some_iff.mp hj).1
  have g := List.getElem?_eq_getElem lt
  obtain ⟨e, f⟩ := h.2 j (kvs[j]).1 (kvs[j]).2 x o g hj
  refine ⟨(kvs[j]).2, valV_at (j := j) ?_ ?_, f⟩
  · rw [g, ← e]
  · rintro i k' v' hi hk rfl
    have lt2 : i < ks.length := by rw [← h.1]; omega
    obtain ⟨e2, _⟩ := h.2 i _ v' (ks[i]).1 (ks[i]).2 hk (List.getElem?_eq_getElem lt2)
    have e3 : x = (ks[i]).1 := Sum.inl.inj e2
    have a' : (ks.map (·.1))[j]? = some x := by simp [hj]
    have b' : (ks.map (·.1))[i]? = some x := by rw [List.getElem?_map, List.getElem?_eq_getElem lt2, e3]; rfl
    obtain ⟨h1, q1⟩ := List.getElem?_eq_some_iff.mp a'
    obtain ⟨h2, q2⟩ := List.getElem?_eq_some_iff.mp b'
    have := (List.getElem_inj nd).mp (q1.trans q2.symm)
    omega
theorem FBy.has {H : Hp} {kvs : List (Key × V)} {ks : List LK.FK} (h : FBy H kvs ks) (nd : (ks.map (·.1)).Nodup) (x : Int) : (valV kvs (.inl x)).isSome = LK.inKs ks x := by
  cases q : LK.inKs ks x with
  | true =>
    obtain ⟨j, o, hj⟩ := LK.inKs_iff.mp q
    obtain ⟨v, hv, _⟩ := h.at_ nd hj
    rw [hv]; rfl
  | false => rw [h.out q]; rfl
theorem FBy.snoc {H : Hp} {kvs : List (Key × V)} {ks : List LK.FK} (h : FBy H kvs ks) {x : Int} {v : V} {o : Option (Int × Nat)} (hx : LK.inKs ks x = false) (hv : FVal H o v) : FBy H (putK kvs (.inl x) v) (ks ++ [(x, o)]) := by
  rw [putK_new _ (h.out hx)]
  refine ⟨by rw [List.length_append, List.length_append, h.1]; rfl, fun j k u y p h1 h2 => ?_⟩
  rcases Nat.lt_or_ge j kvs.length with lt | ge
  · rw [List.getElem?_append_left lt] at h1
    rw [List.getElem?_append_left (by rw [← h.1]; exact lt)] at h2
    exact h.2 j k u y p h1 h2
  · rw [List.getElem?_append_right ge] at h1
    rw [List.getElem?_append_right (by rw [← h.1]; exact ge)] at h2
    have e : j - kvs.length = 0 := by
      rcases Nat.eq_zero_or_pos (j - kvs.length) with z | z
      · exact z
      · rw [List.getElem?_eq_none (by simp; omega)] at h1; cases h1
    rw [e] at h1
    rw [← h.1, e] at h2
    simp at h1 h2
    obtain ⟨rfl, rfl⟩ := h1
    obtain ⟨rfl, rfl⟩ := h2
    exact ⟨rfl, hv⟩
theorem ints_len {l : List Int} {N : Nat} (nd : l.Nodup) (h : ∀ x ∈ l, 0 ≤ x ∧ x < N) : l.length ≤ N := by
  have gen : ∀ (L M : List Int), L.Nodup → (∀ p ∈ L, p ∈ M) → L.length ≤ M.length := by
    intro L
    induction L with
    | nil => intro M _ _; simp
    | cons a L ih =>
      intro M hL hs
      have ha := hs a (List.mem_cons_self ..)
      have hL' := List.nodup_cons.mp hL
      have := ih (M.erase a) hL'.2 fun p hp => by
        have hne : p ≠ a := fun q => hL'.1 (q ▸ hp)
        exact (List.mem_erase_of_ne hne).mpr (hs p (List.mem_cons_of_mem _ hp))
      rw [List.length_erase_of_mem ha] at this
      have := List.length_pos_of_mem ha
      rw [List.length_cons]
      omega
  have := gen l ((List.range N).map fun n : Nat => (n : Int)) nd fun x hx => by
    obtain ⟨h1, h2⟩ := h x hx
    exact List.mem_map.mpr ⟨x.toNat, List.mem_range.mpr (by omega), by omega⟩
  simpa using this

/-- all edges lie between nodes -/
def EdgesIn (N : Nat) (E : List LK.Edge) : Prop := ∀ e ∈ E, (0 ≤ e.1 ∧ e.1 < N) ∧ (0 ≤ e.2.1 ∧ e.2.1 < N)
theorem next_in {N : Nat} {E : List LK.Edge} {F : List Int} {x y : Int} {i : Nat} (h : EdgesIn N E) (hn : LK.next E F x i = some y) : 0 ≤ y ∧ y < N := by
  unfold LK.next at hn
  split at hn
  · rename_i e f he hf
    have hm := h e (List.mem_of_getElem? he)
    unfold LK.nextOf at hn
    split at hn <;> split at hn <;> cases hn
    · exact hm.2
    · exact hm.1
  · cases hn
def spReached (C : Addr) : Sp := fun vs H Q _ => ∃ (H0 : Hp) (x : Addr) (N : Nat) (E : List LK.Edge) (F : List Int), vs = [.ref x] ∧ NetAt C H0 H x N E F ∧ EdgesIn N E ∧ 0 < N ∧ N ≤ 5000 ∧
  ∀ d H' ks, H d = none → Ex H H' → FoundAt H' d ks → LK.Found E F ks → LK.Closed (LK.inKs ks) E F → Q (.ref d) H'

section
variable {K : PySem.W.Frag} {σ : L2.St} {H H' : Hp} {ta tb te tx tv : TE} {D : Ends} {tu tw tz : TS} {P : Addr → Hp → Prop} {v : V}
/-- three names from a tuple that stands -/
theorem q_asg3 {i j l : Nat} {t : Addr} {a b c : V} (h : Ev te σ H (.ref t)) (ht : H t = some (.tup [a, b, c])) (k : ∀ H1, Ex H H1 → tz D (((σ.set i (some a)).set j (some b)).set l (some c)) H1) :
    tSeq (tAsg te (gTup K 3 (gCons (gName i) (gCons (gName j) (gCons (gName l) gNil))))) tz D σ H := h H (Ex.refl H) _ fun H1 e1 =>
  ⟨t, [a, b, c], rfl, st_of (e1 _ _ ht), rfl, a, [b, c], rfl, b, [c], rfl, c, [], rfl, rfl, k H1 e1⟩
theorem q_asg2 {i j : Nat} {t : Addr} {a b : V} (h : Ev te σ H (.ref t)) (ht : H t = some (.tup [a, b])) (k : ∀ H1, Ex H H1 → tz D ((σ.set i (some a)).set j (some b)) H1) :
    tSeq (tAsg te (gTup K 2 (gCons (gName i) (gCons (gName j) gNil)))) tz D σ H := h H (Ex.refl H) _ fun H1 e1 =>
  ⟨t, [a, b], rfl, st_of (e1 _ _ ht), rfl, a, [b], rfl, b, [], rfl, rfl, k H1 e1⟩
/-- d[k] = a new tuple -/
theorem q_dputU {d : Addr} {i : Int} {kvs : List (Key × V)} {xs : List V} (hv : EvU tv σ H xs) (hd : Ev ta σ H (.ref d)) (hy : Ev tb σ H (.int i)) (ho : H d = some (.dK kvs)) (hl : kvs.length < 100000)
    (k : ∀ t H1, H t = none → Ex H H1 → H1 t = some (.tup xs) → tz D σ (upd H1 d (.dK (putK kvs (.inl i) (.ref t))))) : tSeq (sDPut ta tb tv) tz D σ H := hv H (Ex.refl H) _ fun t H1 ht e1 h1 => hd H1 e1 _ fun H2 e2 => hy H2 (e1.trans e2) _ fun H3 e3 =>
  ⟨d, _, rfl, .inl ⟨kvs, .inl i, ((e1.trans e2).trans e3) d _ ho, rfl, sz_lt hl, rfl⟩, k t H3 ht ((e1.trans e2).trans e3) (e3 _ _ (e2 _ _ h1))⟩
end

section
variable {P : Program} {w : World} {K : PySem.W.Frag} {mg : Str → Option Value} {base : Heap} {CN CS : Addr}

theorem ok_NetworkNextNode {f : Addr} {fd : FuncData} (F : Fun K "next_node" "Network.next_node" sNetworkNextNode f fd) (T : Txt K mg CN CS)  : FnOk P w K mg base CX0 1 f fd PNetworkNextNode (spNextNode CN) := by
  refine F.ok scNetworkNextNode (fun vs H Q E h => ?_) (fun cdv A outer s H vs Q E hr h => ?_)
  · obtain ⟨H0, x, N, E, F, nd, i, rfl, ⟨dx, le, lf, la, ts, as, S⟩, hi, q⟩ := h
    rfl
  · obtain ⟨H0, x, N, E, F, nd, i, rfl, ⟨dx, le, lf, la, ts, as, S⟩, hi, q⟩ := h
    refine ⟨_, (pss_cons (ps_asg (pe_ix ix_list (pe_fld (pv 0) rfl) (pv 2) (fun _ _ => rfl)) (pg_tup rfl (pgs_cons (pg_name (i := 3) scNetworkNextNode.nd rfl (.inl rfl)) (pgs_cons (pg_name (i := 4) scNetworkNextNode.nd rfl (.inl rfl)) (pgs_cons (pg_name (i := 5) scNetworkNextNode.nd rfl (.inl rfl)) pgs_nil)))))
      (pss_cons (ps_if (pt_cmpR op_eq (pv 1) (pv 3) (nomark _)) (pss_one (ps_ret (pe_ifExp (pt_cmpR op_lt (pe_ix ix_list (pe_fld (pv 0) rfl) (pv 2) (fun _ _ => rfl)) (pv 5) (nomark _)) (pv 4) pe_non))) pss_nil)
      (pss_one (ps_ret (pe_ifExp (pt_cmpR op_gt (pe_ix ix_list (pe_fld (pv 0) rfl) (pv 2) (fun _ _ => rfl)) pe_int (nomark _)) (pv 3) pe_non))))), ?_⟩
    have hti : i < ts.length := by rw [S.tl]; exact hi
    have hfi : i < F.length := by rw [S.fl]; exact hi
    have gt := List.getElem?_eq_getElem hti
    have ge := List.getElem?_eq_getElem hi
    have gf := List.getElem?_eq_getElem hfi
    have en : LK.next E F nd i = LK.nextOf E[i] F[i] nd := by unfold LK.next; rw [ge, gf]
    rw [en] at q
    refine q_asg3 (f_edge T S (ev_var rfl) (ev_var rfl) gt) (S.tt i _ _ gt ge) fun H1 e1 => ?_
    have S1 := S.mono e1
    by_cases c : nd = E[i].1
    · refine q_when (b := true) (et_test (ev_is (ev_op (ev_var rfl) (ev_var rfl) (rv_eq rfl)) (by rw [c, decide_eq_true rfl]))) (fun _ H2 e2 => ?_) (fun z => nomatch z)
      have S2 := S1.mono e2
      by_cases d : F[i] < E[i].2.2
      · refine s_ret (ev_if (b := true) (et_test (ev_is (ev_op (f_flow T S2 (ev_var rfl) (ev_var rfl) gf) (ev_var rfl) rv_I0) (by rw [decide_eq_true d]))) (fun _ => ev_var rfl) (fun z => nomatch z)) fun H3 e3 => ?_
        have := q H3 ((e1.trans e2).trans e3)
        unfold LK.nextOf at this
        rw [if_pos c, if_pos d] at this
        exact this
      · refine s_ret (ev_if (b := false) (et_test (ev_is (ev_op (f_flow T S2 (ev_var rfl) (ev_var rfl) gf) (ev_var rfl) rv_I0) (by rw [decide_eq_false d]))) (fun z => nomatch z) (fun _ => ev_c)) fun H3 e3 => ?_
        have := q H3 ((e1.trans e2).trans e3)
        unfold LK.nextOf at this
        rw [if_pos c, if_neg d] at this
        exact this
    · refine q_when (b := false) (et_test (ev_is (ev_op (ev_var rfl) (ev_var rfl) (rv_eq rfl)) (by rw [decide_eq_false (fun z => c (V.int.inj z))]))) (fun z => nomatch z) (fun _ H2 e2 => ?_)
      have S2 := S1.mono e2
      by_cases d : 0 < F[i]
      · refine s_ret (ev_if (b := true) (et_test (ev_is (ev_op (f_flow T S2 (ev_var rfl) (ev_var rfl) gf) ev_c rv_I0) (by rw [decide_eq_true d]))) (fun _ => ev_var rfl) (fun z => nomatch z)) fun H3 e3 => ?_
        have := q H3 ((e1.trans e2).trans e3)
        unfold LK.nextOf at this
        rw [if_neg c, if_pos d] at this
        exact this
      · refine s_ret (ev_if (b := false) (et_test (ev_is (ev_op (f_flow T S2 (ev_var rfl) (ev_var rfl) gf) ev_c rv_I0) (by rw [decide_eq_false d]))) (fun z => nomatch z) (fun _ => ev_c)) fun H3 e3 => ?_
        have := q H3 ((e1.trans e2).trans e3)
        unfold LK.nextOf at this
        rw [if_neg c, if_neg d] at this
        exact this

/-- every edge out of the first n nodes that were found leads to one that was found -/
def DoneTo (E : List LK.Edge) (F : List Int) (ks : List LK.FK) (n : Nat) : Prop := ∀ (j : Nat) (x : Int) (o : Option (Int × Nat)), j < n → ks[j]? = some (x, o) → ∀ i ∈ LK.adj E x, ∀ y, LK.next E F x i = some y → LK.inKs ks y = true
theorem inKs_mono {ks : List LK.FK} {p : LK.FK} {y : Int} (h : LK.inKs ks y = true) : LK.inKs (ks ++ [p]) y = true := by
  obtain ⟨j, o, hj⟩ := LK.inKs_iff.mp h
  exact LK.inKs_iff.mpr ⟨j, o, by rw [List.getElem?_append_left (List.getElem?_eq_some_iff.mp hj).1]; exact hj⟩
theorem found_snoc {E : List LK.Edge} {F : List Int} {ks : List LK.FK} (h : LK.Found E F ks) {x y : Int} {i j : Nat} {o : Option (Int × Nat)} (hj : ks[j]? = some (x, o)) (hi : i ∈ LK.adj E x) (hn : LK.next E F x i = some y) (hy : LK.inKs ks y = false) : LK.Found E F (ks ++ [(y, some (x, i))]) := by
  have lj := (List.getElem?_eq_some_iff.mp hj).1
  have l0 := (List.getElem?_eq_some_iff.mp h.head).1
  refine ⟨by rw [List.getElem?_append_left l0]; exact h.head, fun k z p hk k0 => ?_, ?_⟩
  · rcases Nat.lt_or_ge k ks.length with lt | ge
    · rw [List.getElem?_append_left lt] at hk
      obtain ⟨u, e, m, p', a, b, c, d, f⟩ := h.pred k z p hk k0
      exact ⟨u, e, m, p', a, b, by rw [List.getElem?_append_left (by omega)]; exact c, d, f⟩
    · rw [List.getElem?_append_right ge] at hk
      have e : k - ks.length = 0 := by
        rcases Nat.eq_zero_or_pos (k - ks.length) with z | z
        · exact z
        · rw [List.getElem?_eq_none (by simp; omega)] at hk; cases hk
      rw [e] at hk
      simp at hk
      obtain ⟨rfl, rfl⟩ := hk
      exact ⟨x, i, j, o, rfl, by omega, by rw [List.getElem?_append_left lj]; exact hj, hi, hn⟩
  · rw [List.map_append, List.nodup_append]
    refine ⟨h.nodup, List.nodup_cons.mpr ⟨by simp, List.nodup_nil⟩, ?_⟩
    intro a ha b hb
    simp at hb
    subst hb
    intro q
    subst q
    unfold LK.inKs at hy
    rw [decide_eq_false_iff_not] at hy
    exact hy ha

theorem ok_NetworkReached {f : Addr} {fd : FuncData} (F : Fun K "reached" "Network.reached" sNetworkReached f fd) (T : Txt K mg CN CS) (mNextNode : Md P w K mg base CN "next_node" PNetworkNextNode 1 (spNextNode CN)) : FnOk P w K mg base CX0 2 f fd PNetworkReached (spReached CN) := by
  refine F.ok scNetworkReached (fun vs H Q E h => ?_) (fun cdv A outer s H vs Q E hr h => ?_)
  · obtain ⟨H0, x, N, E, F, rfl, hNet, hEd, hN0, hN, q⟩ := h
    rfl
  · obtain ⟨H0, x, N, E, F, rfl, hNet, hEd, hN0, hN, q⟩ := h
    have hu := hu_of hr
    refine ⟨_, (pss_cons (ps_set (i := 1) scNetworkReached.nd rfl (.inl rfl) (pe_disp (pps_cons (pe_globE (by rfl) T.gSOURCE) pe_non pps_nil) (by rfl) (by rfl) (fun z => by cases z) (by decide)))
      (pss_cons (ps_set (i := 2) scNetworkReached.nd rfl (.inl rfl) (pe_lst (pa_cons (pe_globE (by rfl) T.gSOURCE) pa_nil)))
      (pss_cons (ps_set (i := 3) scNetworkReached.nd rfl (.inl rfl) pe_int)
      (pss_cons (ps_while PassesOwn.never (pt_cmpR op_lt (pv 3) (pe_callB call_len_seq (by rfl) T.m_len (by decide +kernel) (pa_cons (pv 2) pa_nil)) (nomark _)) (pss_cons (ps_set (i := 4) scNetworkReached.nd rfl (.inl rfl) (pe_ix ix_list (pv 2) (pv 3) (fun _ _ => rfl)))
      (pss_cons (ps_for PassesOwn.never rfl (pi_list (pe_ix ix_list (pe_fld (pv 0) rfl) (pv 4) (fun _ _ => rfl))) (pg_name (i := 5) scNetworkReached.nd rfl (.inl rfl)) (pss_cons (ps_set (i := 6) scNetworkReached.nd rfl (.inl rfl) (pe_meth (pv 0) T.clNetwork mNextNode.M mNextNode.G (hr.mono (by decide)) mNextNode.b .nil pass0 (pa_cons (pv 4) (pa_cons (pv 5) pa_nil))))
      (pss_one (ps_if (PW.pt (pw_and (pt_cmpR op_notN (pv 6) pe_non (nomark _)) (pw_and1 (pt_cmp (pc_dnotin hu (pv 6) (pv 1)))))) (pss_cons (ps_dput hu (pv 1) (pv 6) (pe_tup (pa_cons (pv 4) (pa_cons (pv 5) pa_nil))) rfl)
      (pss_one (ps_expr (pe_bm PySem.F.plainAttrs_list PySem.F.slot_list_append PySem.F.type_list_append mt_append (pv 2) (pa_cons (pv 6) pa_nil))))) pss_nil))))
      (pss_one (ps_aug (i := 3) scNetworkReached.nd rfl (.inl rfl) pe_int ip_add)))))
      (pss_one (ps_ret (pv 1))))))), ?_⟩
    -- found = {SOURCE: None}
    refine fun d hd => ⟨upd_same, [(.inl 0, .non)], rfl, by simp, ?_⟩
    have e1 : Ex H (upd (upd H d (.dK [])) d (.dK (mergeK [] [(Sum.inl 0, V.non)]))) := Ex.mut (Ex.new hd) hd
    have h1 : (upd (upd H d (.dK [])) d (.dK (mergeK [] [(Sum.inl 0, V.non)]))) d = some (.dK [(Sum.inl 0, V.non)]) := upd_same
    generalize upd (upd H d (.dK [])) d (.dK (mergeK [] [(Sum.inl 0, V.non)])) = H1 at e1 h1 ⊢
    refine q_asgL (el_lst (vs := [.int 0]) (ea_cons ev_c ea_nil) (by simp)) fun wl H2 hw e2 h2 => ?_
    refine q_asg ev_c fun H3 e3 => ?_
    have hwH : H wl = none := fresh_back e1 hw
    have E3 := (e1.trans e2).trans e3
    have bnd : ∀ (ks : List LK.FK), LK.Found E F ks → (∀ k ∈ ks, 0 ≤ k.1 ∧ k.1 < N) → ks.length ≤ N := fun ks hf hb => by
      have := ints_len hf.nodup (N := N) fun z hz => by
        obtain ⟨k, hk, rfl⟩ := List.mem_map.mp hz
        exact hb k hk
      rw [List.length_map] at this
      exact this
    refine q_while (fun m σ' H' => ∃ (n : Nat) (ks : List LK.FK) (y4 y5 y6 : Option V) (kvs : List (Key × V)), σ' = [some (.ref x), some (.ref d), some (.ref wl), some (.int (n : Nat)), y4, y5, y6] ∧ Ex H H' ∧ H' d = some (.dK kvs) ∧ FBy H' kvs ks ∧ H' wl = some (.lst (ks.map fun k => V.int k.1)) ∧
        LK.Found E F ks ∧ (∀ k ∈ ks, 0 ≤ k.1 ∧ k.1 < N) ∧ n ≤ ks.length ∧ DoneTo E F ks n ∧ m = N - n) N ?_ ?_
    · refine ⟨0, [(0, none)], none, none, none, [(Sum.inl 0, V.non)], rfl, E3, e3 _ _ (e2 _ _ h1), ⟨rfl, ?_⟩, e3 _ _ h2, ⟨rfl, ?_, by simp⟩, ?_, by simp, ?_, by omega⟩
      · intro j k v z o hj hk
        cases j with
        | zero => simp at hj hk; obtain ⟨rfl, rfl⟩ := hj; obtain ⟨rfl, rfl⟩ := hk; exact ⟨rfl, rfl⟩
        | succ j => simp at hj
      · intro j z o hj j0
        cases j with
        | zero => omega
        | succ j => simp at hj
      · intro k hk
        simp at hk
        subst hk
        exact ⟨Int.le_refl 0, by show (0 : Int) < N; omega⟩
      · intro j z o hj
        omega
    · rintro m σ' H' ⟨n, ks, y4, y5, y6, kvs, rfl, ex, hdk, hby, hwl, hf, hkb, hn, hdone, rfl⟩
      have hkl := bnd ks hf hkb
      refine ⟨decide (n < ks.length), et_test (ev_is (ev_op (ev_var rfl) (ev_len (ev_var rfl) (sq_of hwl)) rv_I0) (by rw [List.length_map]; exact congrArg V.bl (decide_eq_decide.mpr Int.ofNat_lt))), fun hb H4 e4 => ?_, fun hb H4 e4 => ?_⟩
      · have hlt : n < ks.length := of_decide_eq_true hb
        have gk := List.getElem?_eq_getElem hlt
        have hk0 := hkb ks[n] (List.getElem_mem hlt)
        refine ⟨fun σ2 H2 => ∃ (ks : List LK.FK) (y4 y5 y6 : Option V) (kvs : List (Key × V)), σ2 = [some (.ref x), some (.ref d), some (.ref wl), some (.int ((n + 1 : Nat) : Int)), y4, y5, y6] ∧ Ex H H2 ∧ H2 d = some (.dK kvs) ∧ FBy H2 kvs ks ∧ H2 wl = some (.lst (ks.map fun k => V.int k.1)) ∧
          LK.Found E F ks ∧ (∀ k ∈ ks, 0 ≤ k.1 ∧ k.1 < N) ∧ n + 1 ≤ ks.length ∧ DoneTo E F ks (n + 1), ?_, ?_⟩
        · rintro σ2 H2 ⟨ks2, z4, z5, z6, kvs2, rfl, a1, a2, a3, a4, a5, a6, a7, a8⟩
          exact ⟨N - (n + 1), by omega, n + 1, ks2, z4, z5, z6, kvs2, rfl, a1, a2, a3, a4, a5, a6, a7, a8, rfl⟩
        · -- node = waiting[at]
          refine q_asg (ev_ixL (v := .int (ks[n]).1) (ev_var rfl) (ev_var rfl) (sq_of (e4 _ _ hwl)) (atI_nat (by rw [List.getElem?_map, gk]; rfl))) fun H5 e5 => ?_
          have ex5 := (ex.trans e4).trans e5
          obtain ⟨dx, le, lf, la, ts, as, S⟩ := hNet.mono ex5
          obtain ⟨i, hi⟩ : ∃ i : Nat, (ks[n]).1 = (i : Nat) := ⟨(ks[n]).1.toNat, by omega⟩
          have hia : i < as.length := by rw [S.al]; omega
          have ga := List.getElem?_eq_getElem hia
          have hat := S.at_ i _ ga
          rw [hi]
          -- for number in self.edges_at[node]
          refine q_forLn (a := as[i]) (xs := (LK.adj E (i : Nat)).map fun n => V.int (n : Nat)) (f_atI T S (ev_var rfl) (ev_var rfl) ga) (sq_of hat) (fun j σ' H' => ∃ (ks : List LK.FK) (y5 y6 : Option V) (kvs : List (Key × V)) (o : Option (Int × Nat)), σ' = [some (.ref x), some (.ref d), some (.ref wl), some (.int (n : Nat)), some (.int (i : Nat)), y5, y6] ∧ Ex H H' ∧ H' as[i] = some (.lst ((LK.adj E (i : Nat)).map fun n => V.int (n : Nat))) ∧ H' d = some (.dK kvs) ∧ FBy H' kvs ks ∧ H' wl = some (.lst (ks.map fun k => V.int k.1)) ∧
              LK.Found E F ks ∧ (∀ k ∈ ks, 0 ≤ k.1 ∧ k.1 < N) ∧ n + 1 ≤ ks.length ∧ DoneTo E F ks n ∧ ks[n]? = some (((i : Nat) : Int), o) ∧ ∀ k e, k < j → (LK.adj E (i : Nat))[k]? = some e → ∀ y, LK.next E F (i : Nat) e = some y → LK.inKs ks y = true) ?_ ?_ ?_ ?_
          · intro H6 e6
            have ex45 := (e4.trans e5).trans e6
            refine ⟨ks, _, _, kvs, (ks[n]).2, rfl, ex5.trans e6, e6 _ _ hat, ex45 _ _ hdk, hby.keep fun b xs hb => ex45 _ _ hb, ex45 _ _ hwl, hf, hkb, hlt, hdone, ?_, fun k e hk => by omega⟩
            rw [gk, ← hi]
          · rintro j σ' H' _ ⟨_, _, _, _, _, _, _, h, _⟩
            exact sq_of h
          · rintro j y σ' H6 hy ⟨ks, y5, y6, kvs, o, rfl, ex6, hat6, hdk, hby, hwl, hf, hkb, hn, hdone, hko, hdo⟩
            rw [List.getElem?_map] at hy
            cases ee : (LK.adj E (i : Nat))[j]? with
            | none => rw [ee] at hy; cases hy
            | some e =>
              rw [ee] at hy
              cases hy
              have hem := List.mem_of_getElem? ee
              obtain ⟨ed, hed, _⟩ := LK.mem_adj.mp hem
              have hel := (List.getElem?_eq_some_iff.mp hed).1
              have Net6 := hNet.mono ex6
              obtain ⟨dx6, le6, lf6, la6, ts6, as6, S6⟩ := id Net6
              have hkl := bnd ks hf hkb
              -- other = self.next_node(node, number)
              refine q_asg (v := optV (LK.next E F (i : Nat) e)) (ev_meth (ev_var rfl) S6.ins (ntF_no _ _ _ (by decide +kernel) (by decide +kernel) (by decide +kernel)) (ea_cons (ev_var rfl) (ea_cons (ev_var rfl) ea_nil)) fun H7 e7 Q' q' E' => ⟨H0, x, N, E, F, _, e, rfl, Net6.mono e7, hel, q'⟩) fun H7 e7 => ?_
              have stay : ∀ (H8 : Hp), Ex H6 H8 → (∀ y, LK.next E F (i : Nat) e = some y → LK.inKs ks y = true) →
                  ∃ (ks : List LK.FK) (y5' y6' : Option V) (kvs : List (Key × V)) (o : Option (Int × Nat)), ([some (.ref x), some (.ref d), some (.ref wl), some (.int (n : Nat)), some (.int (i : Nat)), some (.int (e : Nat)), some (optV (LK.next E F (i : Nat) e))] : L2.St) = [some (.ref x), some (.ref d), some (.ref wl), some (.int (n : Nat)), some (.int (i : Nat)), y5', y6'] ∧ Ex H H8 ∧ H8 as[i] = some (.lst ((LK.adj E (i : Nat)).map fun n => V.int (n : Nat))) ∧ H8 d = some (.dK kvs) ∧ FBy H8 kvs ks ∧ H8 wl = some (.lst (ks.map fun k => V.int k.1)) ∧
                  LK.Found E F ks ∧ (∀ k ∈ ks, 0 ≤ k.1 ∧ k.1 < N) ∧ n + 1 ≤ ks.length ∧ DoneTo E F ks n ∧ ks[n]? = some (((i : Nat) : Int), o) ∧ ∀ k e, k < j + 1 → (LK.adj E (i : Nat))[k]? = some e → ∀ y, LK.next E F (i : Nat) e = some y → LK.inKs ks y = true := by
                intro H8 e8 hall
                refine ⟨ks, _, _, kvs, o, rfl, ex6.trans e8, e8 _ _ hat6, e8 _ _ hdk, hby.keep fun b xs hb => e8 _ _ hb, e8 _ _ hwl, hf, hkb, hn, hdone, hko, fun k e' hk he' y' hy' => ?_⟩
                rcases Nat.lt_or_ge k j with c | c
                · exact hdo k e' c he' y' hy'
                · have : k = j := by omega
                  subst this
                  rw [ee] at he'
                  cases he'
                  exact hall y' hy'
              cases hnx : LK.next E F (i : Nat) e with
              | none =>
                rw [hnx] at stay
                refine s_when (b := false) (et_is (et_and (a := false) (b := true) (et_test (ev_is (ev_notN (ev_var rfl)) rfl)) (fun z => nomatch z)) rfl) (fun z => nomatch z) fun _ H8 e8 => stay H8 (e7.trans e8) (fun y' z => nomatch z)
              | some yy =>
                rw [hnx] at stay
                have hb7 : FBy H7 kvs ks := hby.keep fun b xs hb => e7 _ _ hb
                cases hin : LK.inKs ks yy with
                | true =>
                  refine s_when (b := false) (et_is (et_and (a := true) (b := false) (et_test (ev_is (ev_notN (ev_var rfl)) rfl)) fun _ => et_B (ev_is (ev_dni (i := yy) (ev_var rfl) (ev_var rfl) (.inl (e7 _ _ hdk))) (by rw [hby.has hf.nodup, hin]; rfl))) rfl) (fun z => nomatch z) fun _ H8 e8 => stay H8 (e7.trans e8) (fun y' z => by cases z; exact hin)
                | false =>
                  refine s_when (b := true) (et_is (et_and (a := true) (b := true) (et_test (ev_is (ev_notN (ev_var rfl)) rfl)) fun _ => et_B (ev_is (ev_dni (i := yy) (ev_var rfl) (ev_var rfl) (.inl (e7 _ _ hdk))) (by rw [hby.has hf.nodup, hin]; rfl))) rfl) (fun _ H8 e8 => ?_) (fun z => nomatch z)
                  have e78 := e7.trans e8
                  -- found[other] = (node, number); waiting.append(other)
                  refine q_dputU (i := yy) (xs := [.int (i : Nat), .int (e : Nat)]) (eu_tup (ea_cons (ev_var rfl) (ea_cons (ev_var rfl) ea_nil)) (by show 2 ≤ 100000; decide)) (ev_var rfl) (ev_var rfl) (e78 _ _ hdk) (by rw [hby.1]; omega) fun t H9 ht e9 h9 => ?_
                  have e79 := e78.trans e9
                  have hd9 := e79 _ _ hdk
                  have nd : ∀ {b : Addr} {u : HO}, H9 b = some u → (∀ k, u ≠ .dK k) → b ≠ d := fun hb hu => ne_of hb hd9 (hu _)
                  have hwl10 : (upd H9 d (.dK (putK kvs (.inl yy) (.ref t)))) wl = some (.lst (ks.map fun k => V.int k.1)) := by
                    rw [upd_ne (nd (e79 _ _ hwl) (by intro k z; cases z))]; exact e79 _ _ hwl
                  have hat10 : (upd H9 d (.dK (putK kvs (.inl yy) (.ref t)))) as[i] = some (.lst ((LK.adj E (i : Nat)).map fun n => V.int (n : Nat))) := by
                    rw [upd_ne (nd (e79 _ _ hat6) (by intro k z; cases z))]; exact e79 _ _ hat6
                  have hd10 : (upd H9 d (.dK (putK kvs (.inl yy) (.ref t)))) d = _ := upd_same
                  have ex10 : Ex H (upd H9 d (.dK (putK kvs (.inl yy) (.ref t)))) := Ex.mut (ex6.trans e79) hd
                  have hby10 : FBy (upd H9 d (.dK (putK kvs (.inl yy) (.ref t)))) (putK kvs (.inl yy) (.ref t)) (ks ++ [(yy, some (((i : Nat) : Int), e))]) := by
                    refine FBy.snoc (hby.keep fun b xs hb => ?_) hin ⟨t, rfl, ?_⟩
                    · rw [upd_ne (nd (e79 _ _ hb) (by intro k z; cases z))]; exact e79 _ _ hb
                    · rw [upd_ne (nd h9 (by intro k z; cases z))]; exact h9
                  generalize upd H9 d (.dK (putK kvs (.inl yy) (.ref t))) = H10 at hwl10 hat10 hd10 ex10 hby10 ⊢
                  refine s_app hwl10 (ev_var rfl) (v := .int yy) (ev_var rfl) (by rw [List.length_map]; omega) fun H11 e11 => ?_
                  have nw : ∀ {b : Addr} {u : HO}, H11 b = some u → (∀ k, u ≠ .lst k) → b ≠ wl := fun hb hu => ne_of hb (e11 _ _ hwl10) (hu _)
                  have hwa : as[i] ≠ wl := fun z => by
                    have := S.at_ i _ ga
                    have hwn : H wl = none := hwH
                    obtain ⟨dxb, leb, lfb, lab, tsb, asb, SB⟩ := id hNet
                    -- the address stands in the network ahead of wl
                    have : H as[i] ≠ none := by
                      have e1 := SB.ins
                      have e2 := ex5 _ _ SB.ins
                      rw [S.ins] at e2
                      have e3 : la = lab := by
                        injection e2 with e2
                        injection e2 with _ _ e2
                        unfold ntF at e2
                        simp at e2
                        exact e2.2.2
                      have e4 := ex5 _ _ SB.hla
                      rw [← e3, S.hla] at e4
                      have e5 : as = asb := by
                        injection e4 with e4
                        injection e4 with e4
                        exact List.map_inj_right (fun a b h => by injection h) |>.mp e4
                      subst e5
                      rw [SB.at_ i _ ga]
                      intro z; cases z
                    rw [z] at this
                    exact this hwn
                  refine ⟨ks ++ [(yy, some (((i : Nat) : Int), e))], _, _, putK kvs (.inl yy) (.ref t), o, rfl, Ex.mut (ex10.trans e11) hwH, ?_, ?_, ?_, ?_, found_snoc hf hko hem hnx hin, ?_, ?_, ?_, ?_, ?_⟩
                  · rw [upd_ne hwa]; exact e11 _ _ hat10
                  · rw [upd_ne (nw (e11 _ _ hd10) (by intro k z; cases z))]; exact e11 _ _ hd10
                  · refine hby10.keep fun b xs hb => ?_
                    rw [upd_ne (nw (e11 _ _ hb) (by intro k z; cases z))]; exact e11 _ _ hb
                  · rw [upd_same, List.map_append]; rfl
                  · intro k hk
                    rcases List.mem_append.mp hk with hk | hk
                    · exact hkb k hk
                    · simp at hk
                      subst hk
                      exact next_in hEd hnx
                  · rw [List.length_append]; omega
                  · intro k z p hk hz i' hi' y' hy'
                    rw [List.getElem?_append_left (by omega)] at hz
                    exact inKs_mono (hdone k z p hk hz i' hi' y' hy')
                  · rw [List.getElem?_append_left (by omega)]; exact hko
                  · intro k e' hk he' y' hy'
                    rcases Nat.lt_or_ge k j with c | c
                    · exact inKs_mono (hdo k e' c he' y' hy')
                    · have : k = j := by omega
                      subst this
                      rw [ee] at he'
                      cases he'
                      rw [hnx] at hy'
                      cases hy'
                      exact LK.inKs_iff.mpr ⟨ks.length, some (((i : Nat) : Int), e), by simp⟩
          · rintro σ' H6 ⟨ks, y5, y6, kvs, o, rfl, ex6, hat6, hdk, hby, hwl, hf, hkb, hn, hdone, hko, hdo⟩
            refine s_aug (a := (n : Nat)) (b := 1) rfl ev_c fun H7 e7 => ⟨ks, _, _, _, kvs, rfl, ex6.trans e7, e7 _ _ hdk, hby.keep fun b xs hb => e7 _ _ hb, e7 _ _ hwl, hf, hkb, hn, ?_⟩
            intro k z p hk hz i' hi' y' hy'
            rcases Nat.lt_or_ge k n with c | c
            · exact hdone k z p c hz i' hi' y' hy'
            · have : k = n := by omega
              subst this
              rw [hko] at hz
              cases hz
              obtain ⟨l, hl⟩ := List.getElem?_of_mem hi'
              exact hdo l i' (by rw [List.length_map]; exact (List.getElem?_eq_some_iff.mp hl).1) hl y' hy'
      · have hge : ¬ n < ks.length := of_decide_eq_false hb
        refine s_ret (ev_var rfl) fun H5 e5 => q d H5 ks hd ((ex.trans e4).trans e5) ⟨kvs, (e4.trans e5) _ _ hdk, hby.keep fun b xs hb => (e4.trans e5) _ _ hb⟩ hf ?_
        intro z hz i hi y hy
        obtain ⟨j, o, hj⟩ := LK.inKs_iff.mp hz
        exact hdone j z o (by have := (List.getElem?_eq_some_iff.mp hj).1; omega) hj i hi y hy
end
end LKW

/-! Network: push, fill. -/
namespace LKW
open PySem PySem.Spec PyProof.Rows L2 Evl

def spPush (C : Addr) : Sp := fun vs H Q _ => ∃ (H0 : Hp) (x d : Addr) (N : Nat) (E : List LK.Edge) (F : List Int) (val : Int) (ks : List LK.FK), vs = [.ref x, .ref d] ∧ NetAt C H0 H x N E F ∧ FoundAt H d ks ∧ LK.Found E F ks ∧ LK.Flow E F val ∧ LK.inKs ks 1 = true ∧
  ∀ H' F', NetAt C H0 H' x N E F' → LK.Flow E F' (val + 1) → Q .non H'
def spFill (C : Addr) : Sp := fun vs H Q _ => ∃ (H0 : Hp) (x : Addr) (N : Nat) (E : List LK.Edge) (F : List Int) (val : Int) (B : Nat), vs = [.ref x] ∧ NetAt C H0 H x N E F ∧ EdgesIn N E ∧ 0 < N ∧ N ≤ 5000 ∧ LK.Flow E F val ∧ (∀ F' v', LK.Flow E F' v' → v' ≤ (B : Nat)) ∧
  ∀ d H' F' v' ks, NetAt C H0 H' x N E F' → FoundAt H' d ks → LK.Flow E F' v' → LK.Found E F' ks → LK.Closed (LK.inKs ks) E F' → LK.inKs ks 1 = false → Q (.ref d) H'

section
variable {K : PySem.W.Frag} {σ : L2.St} {H H' : Hp} {ta tb te tx tv to ti : TE} {D : Ends} {tu tw tz : TS} {P : Addr → Hp → Prop} {v : V}
/-- xs[i] += e -/
theorem q_augL {l : Addr} {xs : List V} {j : Nat} {a b : Int} (ho : Ev to σ H (.ref l)) (hi : Ev ti σ H (.int (j : Nat))) (hl : H l = some (.lst xs)) (hx : xs[j]? = some (.int a)) (he : Ev te σ H (.int b)) (k : ∀ H1, Ex H H1 → tz D σ (upd H1 l (.lst (xs.set j (.int (a + b)))))) :
    tSeq (tAugS to ti te (rGetL K) (ipI fun i j => i + j) rSetL) tz D σ H := ho H (Ex.refl H) _ fun H1 e1 => hi H1 e1 _ fun H2 e2 =>
  ⟨l, xs, j, .int a, rfl, rfl, sq_of (e2 _ _ (e1 _ _ hl)), hx, he H2 (e1.trans e2) _ fun H3 e3 => ⟨a, b, rfl, rfl, l, xs, (j : Nat), j, rfl, rfl, e3 _ _ (e2 _ _ (e1 _ _ hl)), ixN_nat (List.getElem?_eq_some_iff.mp hx).1, k H3 ((e1.trans e2).trans e3)⟩⟩
end
/-- other flows -/
theorem NetA.flows {C : Addr} {H0 H : Hp} {x : Addr} {N : Nat} {E : List LK.Edge} {F F' : List Int} {g : Nat → List Nat} {dx le lf la : Addr} {ts as : List Addr} (S : NetA C H0 H x N E F g dx le lf la ts as) (hl : F'.length = F.length) :
    NetA C H0 (upd H lf (.lst (F'.map V.int))) x N E F' g dx le lf la ts as := by
  have nt : ∀ {b : Addr} {xs : List V}, H b = some (.tup xs) → b ≠ lf := fun hb => ne_of hb S.hlf (by intro z; cases z)
  refine { S with ex := Ex.mut S.ex S.ff, ins := ?_, hle := ?_, tt := ?_, hlf := upd_same, fl := by rw [hl]; exact S.fl, hla := ?_, at_ := ?_ }
  · rw [upd_ne (ne_of S.ins S.hlf (by intro z; cases z))]; exact S.ins
  · rw [upd_ne S.n1]; exact S.hle
  · intro j t e h1 h2
    rw [upd_ne (nt (S.tt j t e h1 h2))]
    exact S.tt j t e h1 h2
  · rw [upd_ne S.n3.symm]; exact S.hla
  · intro j b hb
    rw [upd_ne (S.n4 b (List.mem_of_getElem? hb)).2.1]
    exact S.at_ j b hb

section
variable {P : Program} {w : World} {K : PySem.W.Frag} {mg : Str → Option Value} {base : Heap} {CN CS : Addr}

theorem ok_NetworkPush {f : Addr} {fd : FuncData} (F : Fun K "push" "Network.push" sNetworkPush f fd) (T : Txt K mg CN CS)  : FnOk P w K mg base CX0 1 f fd PNetworkPush (spPush CN) := by
  refine F.ok scNetworkPush (fun vs H Q E h => ?_) (fun cdv A outer s H vs Q E hr h => ?_)
  · obtain ⟨H0, x, d, N, E, F, val, ks, rfl, ⟨dx, le, lf, la, ts, as, S⟩, ⟨kvs, hd, hby⟩, hf, hfl, h1, q⟩ := h
    rfl
  · obtain ⟨H0, x, d, N, E, F, val, ks, rfl, ⟨dx, le, lf, la, ts, as, S⟩, ⟨kvs, hd, hby⟩, hf, hfl, h1, q⟩ := h
    have hu := hu_of hr
    refine ⟨_, (pss_cons (ps_set (i := 2) scNetworkPush.nd rfl (.inl rfl) (pe_globE (by rfl) T.gSINK))
      (pss_one (ps_while PassesOwn.never (pt_cmpR op_ne (pv 2) (pe_globE (by rfl) T.gSOURCE) (nomark _)) (pss_cons (ps_asg (pe_dget hu (pv 1) (pv 2) (fun _ _ => rfl)) (pg_tup rfl (pgs_cons (pg_name (i := 3) scNetworkPush.nd rfl (.inl rfl)) (pgs_cons (pg_name (i := 4) scNetworkPush.nd rfl (.inl rfl)) pgs_nil))))
      (pss_cons (ps_augS (pe_fld (pv 0) rfl) (pv 4) pget_list (pe_ifExp (pt_cmpR op_eq (pe_ix ix_tup (pe_ix ix_list (pe_fld (pv 0) rfl) (pv 4) (fun _ _ => rfl)) pe_int (fun _ _ => rfl)) (pv 3) (nomark _)) pe_int (pe_un un_neg pe_int)) ip_add set_list)
      (pss_one (ps_set (i := 2) scNetworkPush.nd rfl (.inl rfl) (pv 3)))))))), ?_⟩
    refine q_asg ev_c fun H1 e1 => ?_
    obtain ⟨j1, o1, hj1⟩ := LK.inKs_iff.mp h1
    refine s_while (fun m σ' H' => ∃ (j : Nat) (z : Int) (F' : List Int) (y3 y4 : Option V), σ' = [some (.ref x), some (.ref d), some (.int z), y3, y4] ∧ LK.Part E ks val F' j z ∧ NetA CN H0 H' x N E F' (fun i => LK.adj E (i : Nat)) dx le lf la ts as ∧ H' d = some (.dK kvs) ∧ FBy H' kvs ks ∧ m = j) j1 ?_ ?_
    · exact ⟨j1, 1, F, none, none, rfl, LK.Part.start hf hfl hj1, S.mono e1, e1 _ _ hd, hby.keep fun b xs hb => e1 _ _ hb, rfl⟩
    · rintro m σ' H' ⟨j, z, F', y3, y4, rfl, pt, S', hd', hby', em⟩
      refine ⟨!decide (V.int z = V.int 0), et_test (ev_op (ev_var rfl) ev_c (rv_ne rfl)), fun hb H2 e2 => ?_, fun hb H2 e2 => ?_⟩
      · have hz : z ≠ 0 := fun c => by rw [c] at hb; simp at hb
        obtain ⟨o, hj⟩ := pt.at_
        have j0 : 0 < j := by
          rcases Nat.eq_zero_or_pos j with c | c
          · subst c
            rw [hf.head] at hj
            cases hj
            exact absurd rfl hz
          · exact c
        obtain ⟨y, i, k, p, rfl, hkj, hy, hi, _⟩ := hf.pred j z o hj j0
        obtain ⟨k', e, f, hk', he, hff, pt'⟩ := pt.step hf hz hj
        refine ⟨fun σ2 H2 => ∃ (j' : Nat) (z : Int) (F' : List Int) (y3 y4 : Option V), j' < j ∧ σ2 = [some (.ref x), some (.ref d), some (.int z), y3, y4] ∧ LK.Part E ks val F' j' z ∧ NetA CN H0 H2 x N E F' (fun i => LK.adj E (i : Nat)) dx le lf la ts as ∧ H2 d = some (.dK kvs) ∧ FBy H2 kvs ks, ?_, ?_⟩
        · rintro σ2 H3 ⟨j', z', F2, u3, u4, hlt, rfl, a1, a2, a3, a4⟩
          exact ⟨j', by omega, j', z', F2, u3, u4, rfl, a1, a2, a3, a4, rfl⟩
        · have S2 := S'.mono e2
          have hd2 := e2 _ _ hd'
          have hby2 : FBy H2 kvs ks := hby'.keep fun b xs hb => e2 _ _ hb
          obtain ⟨v, hv, t, rfl, ht⟩ := hby2.at_ hf.nodup hj
          -- before, number = found[node]
          refine q_asg2 (ev_dget (ev_var rfl) (ev_var rfl) (.inl hd2) hv) ht fun H3 e3 => ?_
          have S3 := S2.mono e3
          have hti : i < ts.length := by rw [S3.tl]; exact (List.getElem?_eq_some_iff.mp he).1
          have gt := List.getElem?_eq_getElem hti
          -- self.flows[number] += ..
          refine q_augL (a := f) (b := if e.1 = y then 1 else -1) (f_flows T S3 (ev_var rfl)) (ev_var rfl) S3.hlf (by rw [List.getElem?_map, hff]; rfl) ?_ fun H4 e4 => ?_
          · have tst := ev_op (r := rEq) (ev_ixT (K := K) (i := 0) (v := .int e.1) (f_edge T S3 (σ := [some (.ref x), some (.ref d), some (.int z), some (.int y), some (.int (i : Nat))]) (ta := tVar 0) (tb := tVar 4) (ev_var rfl) (ev_var rfl) gt) ev_c (st_of (S3.tt i _ _ gt he)) rfl) (ev_var (i := 3) (v := .int y) rfl) (rv_eq rfl)
            by_cases c : e.1 = y
            · rw [if_pos c]
              exact ev_if (b := true) (et_test (ev_is tst (by rw [c, decide_eq_true rfl]))) (fun _ => ev_c) (fun z => nomatch z)
            · rw [if_neg c]
              exact ev_if (b := false) (et_test (ev_is tst (by rw [decide_eq_false (fun z => c (V.int.inj z))]))) (fun z => nomatch z) (fun _ => ev_un ev_c ru_neg)
          · have S4 := S3.mono e4
            have el : (F'.map V.int).set i (.int (f + if e.1 = y then 1 else -1)) = (F'.set i (LK.pushOf e f y)).map V.int := by
              rw [List.map_set]; rfl
            rw [el]
            have S5 := S4.flows (F' := F'.set i (LK.pushOf e f y)) (by rw [List.length_set])
            have hd4 := e4 _ _ (e3 _ _ hd2)
            have nt : ∀ {b : Addr} {xs : List V}, H4 b = some (.tup xs) → b ≠ lf := fun hb => ne_of hb S4.hlf (by intro z; cases z)
            have hd5 : (upd H4 lf (.lst ((F'.set i (LK.pushOf e f y)).map V.int))) d = some (.dK kvs) := by
              rw [upd_ne (ne_of hd4 S4.hlf (by intro z; cases z))]; exact hd4
            have hby5 : FBy (upd H4 lf (.lst ((F'.set i (LK.pushOf e f y)).map V.int))) kvs ks := hby2.keep fun b xs hb => by
              have hb4 := e4 _ _ (e3 _ _ hb)
              rw [upd_ne (nt hb4)]
              exact hb4
            generalize upd H4 lf (.lst ((F'.set i (LK.pushOf e f y)).map V.int)) = H5 at S5 hd5 hby5 ⊢
            -- node = before
            refine s_asg (v := .int y) (ev_var rfl) fun H6 e6 => ⟨k', y, _, _, _, hk', rfl, pt', S5.mono e6, e6 _ _ hd5, hby5.keep fun b xs hb => e6 _ _ hb⟩
      · have hz : z = 0 := by
          by_cases c : z = 0
          · exact c
          · rw [decide_eq_false (fun h => c (V.int.inj h))] at hb
            cases hb
        subst hz
        exact q H2 F' ⟨dx, le, lf, la, ts, as, S'.mono e2⟩ pt.done

theorem ok_NetworkFill {f : Addr} {fd : FuncData} (F : Fun K "fill" "Network.fill" sNetworkFill f fd) (T : Txt K mg CN CS) (mPush : Md P w K mg base CN "push" PNetworkPush 1 (spPush CN)) (mReached : Md P w K mg base CN "reached" PNetworkReached 2 (spReached CN)) : FnOk P w K mg base CX0 3 f fd PNetworkFill (spFill CN) := by
  refine F.ok scNetworkFill (fun vs H Q E h => ?_) (fun cdv A outer s H vs Q E hr h => ?_)
  · obtain ⟨H0, x, N, E, F, val, B, rfl, hNet, hEd, hN0, hN, hfl, hB, q⟩ := h
    rfl
  · obtain ⟨H0, x, N, E, F, val, B, rfl, hNet, hEd, hN0, hN, hfl, hB, q⟩ := h
    have hu := hu_of hr
    refine ⟨_, (pss_cons (ps_set (i := 1) scNetworkFill.nd rfl (.inl rfl) (pe_meth0 (pv 0) T.clNetwork mReached.M mReached.G (hr.mono (by decide)) mReached.b .nil pass0))
      (pss_cons (ps_while PassesOwn.never (pt_cmp (pc_din hu (pe_globE (by rfl) T.gSINK) (pv 1))) (pss_cons (ps_expr (pe_meth (pv 0) T.clNetwork mPush.M mPush.G (hr.mono (by decide)) mPush.b .nil pass0 (pa_cons (pv 1) pa_nil)))
      (pss_one (ps_set (i := 1) scNetworkFill.nd rfl (.inl rfl) (pe_meth0 (pv 0) T.clNetwork mReached.M mReached.G (hr.mono (by decide)) mReached.b .nil pass0)))))
      (pss_one (ps_ret (pv 1))))), ?_⟩
    -- found = self.reached()
    have reach : ∀ {H1 : Hp} {F1 : List Int} {y : Option V} {E' : XK}, NetAt CN H0 H1 x N E F1 → EvN (tMeth CN "reached" (spReached CN) [] E' (tVar 0) tNil) [some (.ref x), y] H1 (fun d H2 => ∃ ks, FoundAt H2 d ks ∧ LK.Found E F1 ks ∧ LK.Closed (LK.inKs ks) E F1) := by
      intro H1 F1 y E' hN1
      obtain ⟨dx, le, lf, la, ts, as, S⟩ := id hN1
      exact ev_methN (ev_var rfl) S.ins (ntF_no _ _ _ (by decide +kernel) (by decide +kernel) (by decide +kernel)) ea_nil fun H2 e2 Q' q' E' => ⟨H0, x, N, E, F1, rfl, hN1.mono e2, hEd, hN0, hN, fun d H3 ks hd e3 a b c => q' d H3 hd e3 ⟨ks, a, b, c⟩⟩
    refine q_asgN (reach hNet) fun d H1 hd e1 ⟨ks, fa, ff, fc⟩ => ?_
    refine q_while (fun m σ' H' => ∃ (d : Addr) (F' : List Int) (v' : Int) (ks : List LK.FK), σ' = [some (.ref x), some (.ref d)] ∧ NetAt CN H0 H' x N E F' ∧ FoundAt H' d ks ∧ LK.Flow E F' v' ∧ LK.Found E F' ks ∧ LK.Closed (LK.inKs ks) E F' ∧ m = ((B : Int) - v').toNat) ((B : Int) - val).toNat ?_ ?_
    · exact ⟨d, F, val, ks, rfl, hNet.mono e1, fa, hfl, ff, fc, rfl⟩
    · rintro m σ' H' ⟨d, F', v', ks, rfl, hN', ⟨kvs, hdk, hby⟩, hfl', ff', fc', rfl⟩
      refine ⟨LK.inKs ks 1, et_B (ev_is (ev_din (i := 1) ev_c (ev_var rfl) (.inl hdk)) (by rw [hby.has ff'.nodup])), fun hb H2 e2 => ?_, fun hb H2 e2 => ?_⟩
      · refine ⟨fun σ2 H2 => ∃ (d : Addr) (F2 : List Int) (ks : List LK.FK), σ2 = [some (.ref x), some (.ref d)] ∧ NetAt CN H0 H2 x N E F2 ∧ FoundAt H2 d ks ∧ LK.Flow E F2 (v' + 1) ∧ LK.Found E F2 ks ∧ LK.Closed (LK.inKs ks) E F2, ?_, ?_⟩
        · rintro σ2 H3 ⟨d2, F2, ks2, rfl, a1, a2, a3, a4, a5⟩
          have := hB _ _ a3
          exact ⟨((B : Int) - (v' + 1)).toNat, by omega, d2, F2, v' + 1, ks2, rfl, a1, a2, a3, a4, a5, rfl⟩
        · -- self.push(found)
          have hN2 := hN'.mono e2
          obtain ⟨dx, le, lf, la, ts, as, S2⟩ := id hN2
          refine ⟨.ref x, rfl, x, dx, _, rfl, S2.ins, ntF_no _ _ _ (by decide +kernel) (by decide +kernel) (by decide +kernel), .ref d, rfl, H0, x, d, N, E, F', v', ks, rfl, hN2, ⟨kvs, e2 _ _ hdk, hby.keep fun b xs hb => e2 _ _ hb⟩, ff', hfl', hb, fun H3 F3 hN3 hfl3 => ?_⟩
          refine s_asgN (reach hN3) fun d4 H4 hd4 e4 ⟨ks4, fa4, ff4, fc4⟩ => ⟨d4, F3, ks4, rfl, hN3.mono e4, fa4, hfl3, ff4, fc4⟩
      · refine s_ret (ev_var rfl) fun H3 e3 => q d H3 F' v' ks (hN'.mono (e2.trans e3)) ⟨kvs, (e2.trans e3) _ _ hdk, hby.keep fun b xs hb => (e2.trans e3) _ _ hb⟩ hfl' ff' fc' hb
end
end LKW

/-! spread_node, lost_node, connect_point. -/
namespace LKW
open PySem PySem.Spec PyProof.Rows L2 Evl

/-- {point: number} -/
def kvFrom : Nat → List LK.Pt → List (List Key × V)
  | _, [] => []
  | n, p :: r => (kPt p, V.int (n : Nat)) :: kvFrom (n + 1) r
def kvPts (ps : List LK.Pt) : List (List Key × V) := kvFrom 0 ps
theorem kvFrom_append : ∀ (a b : List LK.Pt) (n : Nat), kvFrom n (a ++ b) = kvFrom n a ++ kvFrom (n + a.length) b
  | [], b, n => by simp [kvFrom]
  | p :: a, b, n => by
    simp only [List.cons_append, kvFrom, kvFrom_append a b (n + 1), List.length_cons]
    rw [show n + 1 + a.length = n + (a.length + 1) by omega]
theorem kvPts_snoc (a : List LK.Pt) (p : LK.Pt) : kvPts (a ++ [p]) = kvPts a ++ [(kPt p, V.int (a.length : Nat))] := by
  unfold kvPts
  rw [kvFrom_append]
  simp [kvFrom]
theorem kvFrom_len : ∀ (a : List LK.Pt) (n : Nat), (kvFrom n a).length = a.length
  | [], n => rfl
  | p :: a, n => by simp [kvFrom, kvFrom_len a (n + 1)]
theorem kvFrom_val : ∀ (a : List LK.Pt) (n : Nat) (p : LK.Pt), p ∈ a → valV (kvFrom n a) (kPt p) = some (V.int ((n + a.idxOf p : Nat)))
  | [], n, p, h => by simp at h
  | q :: a, n, p, h => by
    show valV ((kPt q, V.int (n : Nat)) :: kvFrom (n + 1) a) (kPt p) = _
    by_cases e : q = p
    · subst e
      rw [valV_pos (k := kPt q) rfl]
      simp
    · rw [valV_neg (k := kPt p) (fun z => e (kPt_inj z))]
      have hm : p ∈ a := by
        rcases List.mem_cons.mp h with z | z
        · exact absurd z.symm e
        · exact z
      rw [kvFrom_val a (n + 1) p hm, List.idxOf_cons]
      have hq : (q == p) = false := by simpa using e
      rw [hq]
      show _ = some (V.int ((n + (List.idxOf p a + 1) : Nat)))
      congr 2
      omega
theorem kvFrom_no : ∀ (a : List LK.Pt) (n : Nat) (k : List Key), (∀ p ∈ a, kPt p ≠ k) → valV (kvFrom n a) k = none
  | [], _, _, _ => rfl
  | q :: a, n, k, h => by
    show valV ((kPt q, V.int (n : Nat)) :: kvFrom (n + 1) a) k = none
    rw [valV_neg (h q (List.mem_cons_self ..))]
    exact kvFrom_no a (n + 1) k fun p hp => h p (List.mem_cons_of_mem _ hp)
theorem kvPts_val {ps : List LK.Pt} {p : LK.Pt} (h : p ∈ ps) : valV (kvPts ps) (kPt p) = some (V.int (ps.idxOf p : Nat)) := by
  unfold kvPts
  rw [kvFrom_val ps 0 p h, Nat.zero_add]
theorem kvPts_none {ps : List LK.Pt} {p : LK.Pt} (h : p ∉ ps) : valV (kvPts ps) (kPt p) = none := kvFrom_no ps 0 _ fun q hq e => h (kPt_inj e ▸ hq)
theorem kvPts_has {ps : List LK.Pt} (p : LK.Pt) : (valV (kvPts ps) (kPt p)).isSome = decide (p ∈ ps) := by
  by_cases h : p ∈ ps
  · rw [kvPts_val h]; simp [h]
  · rw [kvPts_none h]; simp [h]
theorem kvPts_neg {ps : List LK.Pt} {v n : Int} (h : n < 0) : valV (kvPts ps) [.inl v, .inl n] = none := kvFrom_no ps 0 _ fun q _ e => by
  unfold kPt at e
  simp at e
  omega

def spSpreadNode : Sp := fun vs H Q _ => ∃ n : Int, vs = [.int n] ∧ RetV (.int (2 + 2 * n)) H Q
def spLostNode : Sp := fun vs H Q _ => ∃ n : Int, vs = [.int n] ∧ RetV (.int (3 + 2 * n)) H Q
def zeros (E : List LK.Edge) : List Int := List.replicate E.length 0
theorem zeros_snoc (E : List LK.Edge) (e : LK.Edge) : zeros (E ++ [e]) = zeros E ++ [0] := by
  unfold zeros
  rw [List.length_append]
  exact List.replicate_succ'
def spConnectPoint (CN CS : Addr) : Sp := fun vs H Q _ => ∃ (H0 : Hp) (nx sx nd b : Addr) (rows : List LK.Row) (out : List Int) (p : LK.Pt) (E : List LK.Edge),
  vs = [.ref nx, .ref sx, .ref nd, .ref b, .int (LK.sysOf rows out).most] ∧ NetAt CN H0 H nx (2 + 2 * (LK.sysOf rows out).points.length) E (zeros E) ∧ StAt CS H0 sx rows out ∧ H0 nd = some (.dT (kvPts (LK.sysOf rows out).points)) ∧ IsPt H0 b p ∧
  p ∈ (LK.sysOf rows out).points ∧ E.length ≤ 4000 ∧ ∀ H', NetAt CN H0 H' nx (2 + 2 * (LK.sysOf rows out).points.length) (E ++ (LK.sysOf rows out).edgesAt p) (zeros (E ++ (LK.sysOf rows out).edgesAt p)) → Q .non H'

theorem inV_ints (v : Int) : ∀ ns : List Int, inV (.int v) (ns.map V.int) = decide (v ∈ ns)
  | [] => rfl
  | n :: ns => by
    have ih := inV_ints v ns
    show (eqV (.int n) (.int v) || inV (.int v) (ns.map V.int)) = _
    rw [ih]
    show ((n == v) || decide (v ∈ ns)) = _
    by_cases h : n = v
    · simp [h]
    · have : ¬ v = n := fun z => h z.symm
      simp [h, this]
theorem ints_flat (ns : List Int) : (ns.map V.int).all flatV = true := by
  rw [List.all_eq_true]
  intro x hx
  obtain ⟨n, _, rfl⟩ := List.mem_map.mp hx
  rfl
section
variable {K : PySem.W.Frag} {σ : L2.St} {H H' : Hp} {ta tb te tx tv to ti : TE} {D : Ends} {tu tw tz : TS} {P : Addr → Hp → Prop} {v : V}
/-- x in a tuple of ints that an expression gives -/
theorem ev_inP {v : Int} {ns : List Int} (ha : Ev ta σ H (.int v)) (hb : EvP tb σ H (fun v H => ∃ t, v = .ref t ∧ TupI H t ns)) : Ev (tOp (rIn K false) ta tb) σ H (.bl (decide (v ∈ ns))) := fun H1 e Q q =>
  ha H1 e _ fun H2 e2 => hb H2 (e.trans e2) _ fun u H3 e3 ⟨t, eu, ht⟩ => ⟨t, ns.map V.int, eu, .inr (st_of ht), rfl, ints_flat ns, by
    have := q H3 (e2.trans e3)
    rw [← inV_ints] at this
    exact this⟩
/-- network.connect(a, b, c) -/
theorem s_connect {CN nx : Addr} {H0 : Hp} {N : Nat} {E : List LK.Edge} {a b c : Int} {E' : XK} {i : Nat} (hn : σ[i]? = some (some (.ref nx))) (hNet : NetAt CN H0 H nx N E (zeros E)) (h1 : Ev ta σ H (.int a)) (h2 : Ev tb σ H (.int b)) (h3 : Ev te σ H (.int c))
    (ha : 0 ≤ a ∧ a < N) (hb : 0 ≤ b ∧ b < N) (hE : E.length ≤ 5000) (k : ∀ H', NetAt CN H0 H' nx N (E ++ [(a, b, c)]) (zeros (E ++ [(a, b, c)])) → D.nx σ H') :
    tDrop (tMeth CN "connect" (spConnect CN) [] E' (tVar i) (tCons ta (tCons tb (tCons te tNil)))) D σ H := by
  obtain ⟨dx, le, lf, la, ts, as, S⟩ := id hNet
  refine ⟨.ref nx, hn, nx, dx, _, rfl, S.ins, ntF_no _ _ _ (by decide +kernel) (by decide +kernel) (by decide +kernel), ?_⟩
  refine (ea_cons h1 (ea_cons h2 (ea_cons h3 ea_nil))) H (Ex.refl H) _ fun H1 e1 => ?_
  refine ⟨H0, nx, N, E, zeros E, a, b, c, rfl, hNet.mono e1, ha, hb, hE, fun H' hN' => k H' ?_⟩
  rw [zeros_snoc]
  exact hN'
theorem ev_spread {n : Int} {E' : XK} (h : Ev ta σ H (.int n)) : Ev (tCall spSpreadNode [] E' (tCons ta tNil)) σ H (.int (2 + 2 * n)) := ev_call (ea_cons h ea_nil) fun H1 e Q q E => ⟨n, rfl, q⟩
theorem ev_lost {n : Int} {E' : XK} (h : Ev ta σ H (.int n)) : Ev (tCall spLostNode [] E' (tCons ta tNil)) σ H (.int (3 + 2 * n)) := ev_call (ea_cons h ea_nil) fun H1 e Q q E => ⟨n, rfl, q⟩
end
theorem NetAt.weaken {C : Addr} {H0 H1 H : Hp} {x : Addr} {N : Nat} {E : List LK.Edge} {F : List Int} (h : NetAt C H1 H x N E F) (e : Ex H0 H1) : NetAt C H0 H x N E F := by
  obtain ⟨dx, le, lf, la, ts, as, S⟩ := h
  exact ⟨dx, le, lf, la, ts, as, { S with ex := e.trans S.ex, fx := fresh_back e S.fx, fe := fresh_back e S.fe, ff := fresh_back e S.ff, fa := fun a ha => fresh_back e (S.fa a ha) }⟩
theorem NetAt.withTup {C : Addr} {H0 H : Hp} {x t : Addr} {N : Nat} {E : List LK.Edge} {F : List Int} {xs : List V} (h : NetAt C H0 H x N E F) (ht : H t = some (.tup xs)) : NetAt C (upd H0 t (.tup xs)) H x N E F ∧ Ex H0 (upd H0 t (.tup xs)) := by
  obtain ⟨dx, le, lf, la, ts, as, S⟩ := h
  have hfl := S.fl
  have ne : ∀ {b : Addr} {u : HO}, H b = some u → (∀ ys, u ≠ .tup ys) → b ≠ t := fun hb hu => ne_of hb ht (hu _)
  refine ⟨⟨dx, le, lf, la, ts, as, { S with ex := fun b o hb => ?_, fx := ?_, fe := ?_, ff := ?_, fa := fun a ha => ?_ }⟩, fun b o hb => ?_⟩
  · by_cases q : b = t
    · subst q
      rw [upd_same] at hb
      rw [ht]
      exact hb
    · rw [upd_ne q] at hb
      exact S.ex b o hb
  · rw [upd_ne (ne S.ins (by intro _ z; cases z))]; exact S.fx
  · rw [upd_ne (ne S.hle (by intro _ z; cases z))]; exact S.fe
  · rw [upd_ne (ne S.hlf (by intro _ z; cases z))]; exact S.ff
  · obtain ⟨i, hi⟩ := List.getElem?_of_mem ha
    rw [upd_ne (ne (S.at_ i a hi) (by intro _ z; cases z))]; exact S.fa a ha
  · by_cases q : b = t
    · subst q
      rw [upd_same]
      exact ht.symm.trans (S.ex b o hb)
    · rw [upd_ne q]; exact hb
theorem op_point {S : LK.Sys} (w : S.Wf) {v o : Int} {s : Nat} {l : List Int} (hp : (v, s) ∈ S.points) (hl : S.ops v = some l) (ho : o ∈ l) : (o, s) ∈ S.points := by
  have hm := LK.Sys.mem_points.mp hp
  have h2 := w.ops v hm.1 l hl o ho
  refine LK.Sys.mem_points.mpr ⟨h2.1, hm.2.1, ?_⟩
  have := hm.2.2
  unfold LK.Sys.here at this ⊢
  simp only [decide_eq_true_eq] at this ⊢
  omega
theorem opsOf_len {rows : List LK.Row} {out : List Int} (g : Good rows out) {v : Int} {l : List Int} (h : LK.opsOf rows v = some l) : l.length ≤ 3 := by
  unfold LK.opsOf at h
  cases hr : rows[LK.plOf rows v]? with
  | none => rw [hr] at h; cases h
  | some r =>
    rw [hr] at h
    have := g.nl r (List.mem_of_getElem? hr)
    cases r with
    | leaf w => cases h
    | set w l' => cases h; exact this
    | use l' => cases h
    | stop l' => cases h

section
variable {P : Program} {w : World} {K : PySem.W.Frag} {mg : Str → Option Value} {base : Heap} {CN CS : Addr}

theorem ok_SpreadNode {f : Addr} {fd : FuncData} (F : Fun K "spread_node" "spread_node" sSpreadNode f fd) (T : Txt K mg CN CS)  : FnOk P w K mg base CX0 1 f fd PSpreadNode (spSpreadNode) := by
  refine F.ok scSpreadNode (fun vs H Q E h => ?_) (fun cdv A outer s H vs Q E hr h => ?_)
  · obtain ⟨n, rfl, q⟩ := h
    rfl
  · obtain ⟨n, rfl, q⟩ := h
    refine ⟨_, (pss_one (ps_ret (pe_op op_add pe_int (pe_op op_mul pe_int (pv 0))))), ?_⟩
    exact s_ret (ev_op ev_c (ev_op ev_c (ev_var rfl) (rv_I (.inl ⟨by decide, by decide⟩))) rv_I0) fun H1 e1 => q H1 e1

theorem ok_LostNode {f : Addr} {fd : FuncData} (F : Fun K "lost_node" "lost_node" sLostNode f fd) (T : Txt K mg CN CS)  : FnOk P w K mg base CX0 1 f fd PLostNode (spLostNode) := by
  refine F.ok scLostNode (fun vs H Q E h => ?_) (fun cdv A outer s H vs Q E hr h => ?_)
  · obtain ⟨n, rfl, q⟩ := h
    rfl
  · obtain ⟨n, rfl, q⟩ := h
    refine ⟨_, (pss_one (ps_ret (pe_op op_add pe_int (pe_op op_mul pe_int (pv 0))))), ?_⟩
    exact s_ret (ev_op ev_c (ev_op ev_c (ev_var rfl) (rv_I (.inl ⟨by decide, by decide⟩))) rv_I0) fun H1 e1 => q H1 e1

theorem ok_ConnectPoint {f : Addr} {fd : FuncData} (F : Fun K "connect_point" "connect_point" sConnectPoint f fd) (T : Txt K mg CN CS) (dLostNode : Df P w K mg base "lost_node" PLostNode 1 (spLostNode)) (dSpreadNode : Df P w K mg base "spread_node" PSpreadNode 1 (spSpreadNode)) (mAsked : Md P w K mg base CS "asked" PStretchAsked 4 (spAsked CS)) (mConnect : Md P w K mg base CN "connect" PNetworkConnect 1 (spConnect CN)) (mIsLive : Md P w K mg base CS "is_live" PStretchIsLive 2 (spStretchIsLive CS)) (mOperands : Md P w K mg base CS "operands" PStretchOperands 4 (spOperands CS)) : FnOk P w K mg base CX0 5 f fd PConnectPoint (spConnectPoint CN CS) := by
  refine F.ok scConnectPoint (fun vs H Q E h => ?_) (fun cdv A outer s H vs Q E hr h => ?_)
  · obtain ⟨H0, nx, sx, nd, b, rows, out, ⟨v, st⟩, E, rfl, hNet, hSt, hnd, hb, hp, hE, q⟩ := h
    rfl
  · obtain ⟨H0, nx, sx, nd, b, rows, out, ⟨v, st⟩, E, rfl, hNet, hSt, hnd, hb, hp, hE, q⟩ := h
    have hu := hu_of hr
    refine ⟨_, (pss_cons (ps_asg (pv 3) (pg_tup rfl (pgs_cons (pg_name (i := 5) scConnectPoint.nd rfl (.inl rfl)) (pgs_cons (pg_name (i := 6) scConnectPoint.nd rfl (.inl rfl)) pgs_nil))))
      (pss_cons (ps_set (i := 7) scConnectPoint.nd rfl (.inl rfl) (pe_dget hu (pv 2) (pv 3) (fun _ _ => rfl)))
      (pss_cons (ps_set (i := 8) scConnectPoint.nd rfl (.inl rfl) (pe_meth (pv 1) T.clStretch mOperands.M mOperands.G (hr.mono (by decide)) mOperands.b .nil pass0 (pa_cons (pv 5) pa_nil)))
      (pss_cut (ps_if (pt_cmpR op_isN (pv 8) pe_non (nomark _)) (pss_one (ps_expr (pe_meth (pv 0) T.clNetwork mConnect.M mConnect.G (hr.mono (by decide)) mConnect.b .nil pass0 (pa_cons (pe_globE (by rfl) T.gSOURCE) (pa_cons (pe_call dSpreadNode.G (hr.mono (by decide)) (by rfl) dSpreadNode.g dSpreadNode.kp dSpreadNode.b .nil pass0 (pa_cons (pv 7) pa_nil)) (pa_cons (pv 4) pa_nil)))))) (pss_one (ps_for PassesOwn.never rfl (pi_tup (pv 8)) (pg_name (i := 9) scConnectPoint.nd rfl (.inl rfl)) (pss_one (ps_expr (pe_meth (pv 0) T.clNetwork mConnect.M mConnect.G (hr.mono (by decide)) mConnect.b .nil pass0 (pa_cons (pe_call dLostNode.G (hr.mono (by decide)) (by rfl) dLostNode.g dLostNode.kp dLostNode.b .nil pass0 (pa_cons (pe_dget hu (pv 2) (pe_tup (pa_cons (pv 9) (pa_cons (pv 6) pa_nil))) (fun _ _ => rfl)) pa_nil)) (pa_cons (pe_call dSpreadNode.G (hr.mono (by decide)) (by rfl) dSpreadNode.g dSpreadNode.kp dSpreadNode.b .nil pass0 (pa_cons (pv 7) pa_nil)) (pa_cons (pv 4) pa_nil)))))))))
      (pss_cut (ps_if (pt_not (pt_val (pe_meth (pv 1) T.clStretch mIsLive.M mIsLive.G (hr.mono (by decide)) mIsLive.b .nil pass0 (pa_cons (pv 5) (pa_cons (pv 6) pa_nil))))) (pss_one (ps_expr (pe_meth (pv 0) T.clNetwork mConnect.M mConnect.G (hr.mono (by decide)) mConnect.b .nil pass0 (pa_cons (pe_call dSpreadNode.G (hr.mono (by decide)) (by rfl) dSpreadNode.g dSpreadNode.kp dSpreadNode.b .nil pass0 (pa_cons (pv 7) pa_nil)) (pa_cons (pe_call dLostNode.G (hr.mono (by decide)) (by rfl) dLostNode.g dLostNode.kp dLostNode.b .nil pass0 (pa_cons (pv 7) pa_nil)) (pa_cons pe_int pa_nil)))))) pss_nil)
      (pss_cut (ps_if (pt_cmp (pc_din hu (pe_tup (pa_cons (pv 5) (pa_cons (pe_op op_sub (pv 6) pe_int) pa_nil))) (pv 2))) (pss_one (ps_expr (pe_meth (pv 0) T.clNetwork mConnect.M mConnect.G (hr.mono (by decide)) mConnect.b .nil pass0 (pa_cons (pe_call dLostNode.G (hr.mono (by decide)) (by rfl) dLostNode.g dLostNode.kp dLostNode.b .nil pass0 (pa_cons (pe_dget hu (pv 2) (pe_tup (pa_cons (pv 5) (pa_cons (pe_op op_sub (pv 6) pe_int) pa_nil))) (fun _ _ => rfl)) pa_nil)) (pa_cons (pe_call dLostNode.G (hr.mono (by decide)) (by rfl) dLostNode.g dLostNode.kp dLostNode.b .nil pass0 (pa_cons (pv 7) pa_nil)) (pa_cons (pv 4) pa_nil)))))) pss_nil)
      (pss_one (ps_if (pt_cmpR op_in_seq (pv 5) (pe_meth (pv 1) T.clStretch mAsked.M mAsked.G (hr.mono (by decide)) mAsked.b .nil pass0 (pa_cons (pv 6) pa_nil)) (by rfl)) (pss_one (ps_expr (pe_meth (pv 0) T.clNetwork mConnect.M mConnect.G (hr.mono (by decide)) mConnect.b .nil pass0 (pa_cons (pe_call dLostNode.G (hr.mono (by decide)) (by rfl) dLostNode.g dLostNode.kp dLostNode.b .nil pass0 (pa_cons (pv 7) pa_nil)) (pa_cons (pe_globE (by rfl) T.gSINK) (pa_cons (pv 4) pa_nil)))))) pss_nil)))))))), ?_⟩
    generalize hS : LK.sysOf rows out = S at *
    have hg := hSt.good
    have wf : S.Wf := by rw [← hS]; exact LK.wf_sysOf hg.valid
    have hm := LK.Sys.mem_points.mp hp
    have hvo : v ∈ LK.order rows := by have := hm.1; rw [← hS] at this; exact this
    have hst : st < (LK.stops rows).length := by have := hm.2.1; rw [← hS] at this; exact this
    have ix : ∀ {p : LK.Pt}, p ∈ S.points → (0 ≤ S.idx p ∧ S.idx p < S.points.length) := fun hp => ⟨LK.Sys.idx_nonneg _, LK.Sys.idx_lt hp⟩
    have sp0 : ∀ {p : LK.Pt}, p ∈ S.points → (0 ≤ S.sp p ∧ S.sp p < ((2 + 2 * S.points.length : Nat) : Int)) := fun hp => by have := ix hp; unfold LK.Sys.sp; omega
    have lo0 : ∀ {p : LK.Pt}, p ∈ S.points → (0 ≤ S.lo p ∧ S.lo p < ((2 + 2 * S.points.length : Nat) : Int)) := fun hp => by have := ix hp; unfold LK.Sys.lo; omega
    have mo : S.most = (S.points.length : Int) + 1 := rfl
    have ex0 := hNet.base
    -- value, stop = point; here = numbers[point]; operands = stretch.operands(value)
    refine q_asg2 (ev_var rfl) (ex0 _ _ hb) fun H1 e1 => ?_
    refine q_asg (v := .int (S.idx (v, st))) (ev_dgetR (k := kPt (v, st)) (ev_var rfl) (ev_var rfl) (e1 _ _ (ex0 _ _ hb)) (.inl (e1 _ _ (ex0 _ _ hnd))) (kvPts_val hp)) fun H2 e2 => ?_
    have E2 := (ex0.trans e1).trans e2
    obtain ⟨dx, vp, ro, oo, sp, np, nk, as, SA⟩ := hSt.ex E2
    refine q_asgP (PV := OpsV (LK.opsOf rows v)) (ev_methP (ev_var rfl) SA.ins (stF_no _ _ _ _ _ (by decide +kernel) (by decide +kernel) (by decide +kernel) (by decide +kernel) (by decide +kernel)) (ea_cons (ev_var rfl) ea_nil) fun H3 e Q' q' E' => ⟨sx, rows, out, v, rfl, hSt.ex (E2.trans e), hvo, fun u H4 e4 hu4 => q' u H4 e4 hu4⟩) fun u H3 e3 hu3 => ?_
    have E3 := E2.trans e3
    have N3 := hNet.mono ((e1.trans e2).trans e3)
    have eops : LK.opsOf rows v = S.ops v := by rw [← hS]; rfl
    have cut : ∀ {H4 : Hp} {E4 : List LK.Edge}, NetAt CN H0 H4 nx (2 + 2 * S.points.length) E4 (zeros E4) → Ex H0 H4 := fun h => h.base
    have fl3 : (S.frontAt (v, st)).length ≤ 3 := by
      unfold LK.Sys.frontAt
      cases ho : S.ops v with
      | none => simp [ho]
      | some l =>
        have := opsOf_len hg (v := v) (l := l) (by rw [eops]; exact ho)
        simp [ho]
        omega
    have blen : (S.backAt (v, st)).length ≤ 1 := by
      unfold LK.Sys.backAt
      cases st with
      | zero => simp
      | succ s => simp only; split <;> simp
    refine q_cut (M := fun σ' H' => ∃ y9, σ' = [some (.ref nx), some (.ref sx), some (.ref nd), some (.ref b), some (.int S.most), some (.int v), some (.int (st : Nat)), some (.int (S.idx (v, st))), some u, y9] ∧ NetAt CN H0 H' nx (2 + 2 * S.points.length) (E ++ S.frontAt (v, st)) (zeros (E ++ S.frontAt (v, st)))) ?_ ?_
    · -- the edges in front
      rw [eops] at hu3
      cases ho : S.ops v with
      | none =>
        rw [ho] at hu3
        cases hu3
        have ef : S.frontAt (v, st) = [((0 : Int), S.sp (v, st), S.most)] := by unfold LK.Sys.frontAt; simp [ho]
        rw [ef]
        refine s_if (b := true) (et_test (ev_is (ev_isN (ev_var rfl)) rfl)) (fun _ H4 e4 => ?_) (fun z => nomatch z)
        exact s_connect rfl (N3.mono e4) ev_c (ev_spread (ev_var rfl)) (ev_var rfl) ⟨Int.le_refl 0, by omega⟩ (sp0 hp) (by omega) fun H5 hN5 => ⟨_, rfl, hN5⟩
      | some l =>
        rw [ho] at hu3
        obtain ⟨t, rfl, ht⟩ := hu3
        have ef : S.frontAt (v, st) = l.map fun o => (S.lo (o, st), S.sp (v, st), S.most) := by unfold LK.Sys.frontAt; simp [ho]
        rw [ef] at fl3 ⊢
        rw [List.length_map] at fl3
        refine s_if (b := false) (et_test (ev_is (ev_isN (ev_var rfl)) rfl)) (fun z => nomatch z) (fun _ H4 e4 => ?_)
        have ht4 := ht.ex e4
        obtain ⟨N4, ext⟩ := (N3.mono e4).withTup ht4
        refine s_forT (xs := l.map V.int) (ev_var rfl) ht4.sq (fun j σ' H' => ∃ y9, σ' = [some (.ref nx), some (.ref sx), some (.ref nd), some (.ref b), some (.int S.most), some (.int v), some (.int (st : Nat)), some (.int (S.idx (v, st))), some (.ref t), y9] ∧
            NetAt CN (upd H0 t (.tup (l.map V.int))) H' nx (2 + 2 * S.points.length) (E ++ (l.take j).map fun o => (S.lo (o, st), S.sp (v, st), S.most)) (zeros (E ++ (l.take j).map fun o => (S.lo (o, st), S.sp (v, st), S.most)))) ?_ ?_ ?_ ?_
        · intro H5 e5
          refine ⟨none, rfl, ?_⟩
          simp only [List.take_zero, List.map_nil, List.append_nil]
          exact N4.mono e5
        · rintro i σ' H' _ ⟨_, _, h⟩
          exact st_of (h.base _ _ upd_same)
        · rintro j x σ' H' hx ⟨y9, rfl, hN'⟩
          rw [List.getElem?_map] at hx
          cases eo : l[j]? with
          | none => rw [eo] at hx; cases hx
          | some o =>
            rw [eo] at hx
            cases hx
            have hpo := op_point wf hp ho (List.mem_of_getElem? eo)
            have hl : (E ++ (l.take j).map fun o => (S.lo (o, st), S.sp (v, st), S.most)).length ≤ 5000 := by
              rw [List.length_append, List.length_map, List.length_take]; omega
            have hN0 := ext.trans hN'.base
            refine s_connect rfl hN' (ev_lost (n := S.idx (o, st)) (ev_dgetT (k := kPt (o, st)) (ev_var rfl) (eu_tup (vs := [.int o, .int (st : Nat)]) (ea_cons (ev_var rfl) (ea_cons (ev_var rfl) ea_nil)) (by show 2 ≤ 100000; decide)) (.inl (hN0 _ _ hnd)) (kvPts_val hpo))) (ev_spread (ev_var rfl)) (ev_var rfl) (lo0 hpo) (sp0 hp) hl fun H5 hN5 => ⟨_, rfl, ?_⟩
            rw [take_row eo, List.map_append, ← List.append_assoc]
            exact hN5
        · rintro σ' H' ⟨y9, rfl, hN'⟩
          rw [List.length_map, List.take_length] at hN'
          exact ⟨_, rfl, hN'.weaken ext⟩
    · rintro _ H4 ⟨y9, rfl, hN4⟩
      have E4 := hN4.base
      -- the edge that can be cut
      refine q_cut (M := fun σ' H' => σ' = [some (.ref nx), some (.ref sx), some (.ref nd), some (.ref b), some (.int S.most), some (.int v), some (.int (st : Nat)), some (.int (S.idx (v, st))), some u, y9] ∧ NetAt CN H0 H' nx (2 + 2 * S.points.length) (E ++ S.frontAt (v, st) ++ (if S.live v st then [] else [(S.sp (v, st), S.lo (v, st), (1 : Int))])) (zeros (E ++ S.frontAt (v, st) ++ (if S.live v st then [] else [(S.sp (v, st), S.lo (v, st), (1 : Int))])))) ?_ ?_
      · obtain ⟨dx4, vp4, ro4, oo4, sp4, np4, nk4, as4, SA4⟩ := hSt.ex E4
        have lv : EvT (tNot (tB (tMeth CS "is_live" (spStretchIsLive CS) [] E0 (tVar 1) (tCons (tVar 5) (tCons (tVar 6) tNil))))) [some (.ref nx), some (.ref sx), some (.ref nd), some (.ref b), some (.int S.most), some (.int v), some (.int (st : Nat)), some (.int (S.idx (v, st))), some u, y9] H4 (!S.live v st) :=
          et_not (et_B (ev_meth (ev_var rfl) SA4.ins (stF_no _ _ _ _ _ (by decide +kernel) (by decide +kernel) (by decide +kernel) (by decide +kernel) (by decide +kernel)) (ea_cons (ev_var rfl) (ea_cons (ev_var rfl) ea_nil)) fun H5 e Q' q' E' => ⟨sx, rows, out, v, st, rfl, hSt.ex (E4.trans e), hvo, hst, by rw [hS]; exact q'⟩))
        cases hlv : S.live v st with
        | true =>
          rw [hlv] at lv
          refine s_when lv (fun z => nomatch z) fun _ H5 e5 => ⟨rfl, ?_⟩
          simp only [if_true, List.append_nil]
          exact hN4.mono e5
        | false =>
          rw [hlv] at lv
          refine s_when lv (fun _ H5 e5 => ?_) (fun z => nomatch z)
          refine s_connect rfl (hN4.mono e5) (ev_spread (ev_var rfl)) (ev_lost (ev_var rfl)) ev_c (sp0 hp) (lo0 hp) (by rw [List.length_append]; omega) fun H6 hN6 => ⟨rfl, ?_⟩
          simp only [Bool.false_eq_true, if_false]
          exact hN6
      · rintro _ H5 ⟨rfl, hN5⟩
        have E5 := hN5.base
        have ll : (if S.live v st then [] else [(S.sp (v, st), S.lo (v, st), (1 : Int))] : List LK.Edge).length ≤ 1 := by split <;> simp
        -- the edge from the stop ahead
        refine q_cut (M := fun σ' H' => σ' = [some (.ref nx), some (.ref sx), some (.ref nd), some (.ref b), some (.int S.most), some (.int v), some (.int (st : Nat)), some (.int (S.idx (v, st))), some u, y9] ∧ NetAt CN H0 H' nx (2 + 2 * S.points.length) (E ++ S.frontAt (v, st) ++ (if S.live v st then [] else [(S.sp (v, st), S.lo (v, st), (1 : Int))]) ++ S.backAt (v, st)) (zeros (E ++ S.frontAt (v, st) ++ (if S.live v st then [] else [(S.sp (v, st), S.lo (v, st), (1 : Int))]) ++ S.backAt (v, st)))) ?_ ?_
        · have pairEv : ∀ (H6 : Hp), EvU (tTup (tCons (tVar 5) (tCons (tOp (rI0 fun i j => .int (i - j)) (tVar 6) (tC (.int 1))) tNil))) [some (.ref nx), some (.ref sx), some (.ref nd), some (.ref b), some (.int S.most), some (.int v), some (.int (st : Nat)), some (.int (S.idx (v, st))), some u, y9] H6 [.int v, .int ((st : Int) - 1)] := fun H6 =>
            eu_tup (vs := [.int v, .int ((st : Int) - 1)]) (ea_cons (ev_var rfl) (ea_cons (ev_op (ev_var rfl) ev_c rv_I0) ea_nil)) (by show 2 ≤ 100000; decide)
          cases hs : st with
          | zero =>
            subst hs
            have eb : S.backAt (v, 0) = [] := rfl
            rw [eb, List.append_nil]
            refine s_when (b := false) (et_B (ev_is (ev_dinT (k := [.inl v, .inl (((0 : Nat) : Int) - 1)]) (pairEv H5) (ev_var rfl) (.inl (E5 _ _ hnd))) (by rw [kvPts_neg (by omega)]; rfl))) (fun z => nomatch z) fun _ H6 e6 => ⟨rfl, hN5.mono e6⟩
          | succ s' =>
            subst hs
            have ek : [V.int v, .int (((s' + 1 : Nat) : Int) - 1)] = (kPt (v, s')).map kV := by
              show _ = [V.int v, .int ((s' : Nat) : Int)]
              rw [show ((s' + 1 : Nat) : Int) - 1 = (s' : Int) by omega]
            by_cases hin : (v, s') ∈ S.points
            · have eb : S.backAt (v, s' + 1) = [(S.lo (v, s'), S.lo (v, s' + 1), S.most)] := by unfold LK.Sys.backAt; simp [hin]
              rw [eb]
              refine s_when (b := true) (et_B (ev_is (ev_dinT (k := kPt (v, s')) (ek ▸ pairEv H5) (ev_var rfl) (.inl (E5 _ _ hnd))) (by rw [kvPts_has]; simp [hin]))) (fun _ H6 e6 => ?_) (fun z => nomatch z)
              exact s_connect rfl (hN5.mono e6) (ev_lost (n := S.idx (v, s')) (ev_dgetT (k := kPt (v, s')) (ev_var rfl) (ek ▸ pairEv H6) (.inl (e6 _ _ (E5 _ _ hnd))) (kvPts_val hin))) (ev_lost (ev_var rfl)) (ev_var rfl) (lo0 hin) (lo0 hp) (by rw [List.length_append, List.length_append]; omega) fun H7 hN7 => ⟨rfl, hN7⟩
            · have eb : S.backAt (v, s' + 1) = [] := by unfold LK.Sys.backAt; simp [hin]
              rw [eb, List.append_nil]
              refine s_when (b := false) (et_B (ev_is (ev_dinT (k := kPt (v, s')) (ek ▸ pairEv H5) (ev_var rfl) (.inl (E5 _ _ hnd))) (by rw [kvPts_has]; simp [hin]))) (fun z => nomatch z) fun _ H6 e6 => ⟨rfl, hN5.mono e6⟩
        · rintro _ H6 ⟨rfl, hN6⟩
          have E6 := hN6.base
          obtain ⟨dx6, vp6, ro6, oo6, sp6, np6, nk6, as6, SA6⟩ := hSt.ex E6
          -- the edge to the sink
          have eall : E ++ S.frontAt (v, st) ++ (if S.live v st then [] else [(S.sp (v, st), S.lo (v, st), (1 : Int))]) ++ S.backAt (v, st) ++ (if v ∈ S.asks st then [(S.lo (v, st), (1 : Int), S.most)] else []) = E ++ S.edgesAt (v, st) := by
            unfold LK.Sys.edgesAt
            simp only [List.append_assoc]
          have ask : EvT (tTest (tOp (rIn K false) (tVar 5) (tMeth CS "asked" (spAsked CS) [] E0 (tVar 1) (tCons (tVar 6) tNil)))) [some (.ref nx), some (.ref sx), some (.ref nd), some (.ref b), some (.int S.most), some (.int v), some (.int (st : Nat)), some (.int (S.idx (v, st))), some u, y9] H6 (decide (v ∈ S.asks st)) :=
            et_test (ev_inP (ev_var rfl) (ev_methP (ev_var rfl) SA6.ins (stF_no _ _ _ _ _ (by decide +kernel) (by decide +kernel) (by decide +kernel) (by decide +kernel) (by decide +kernel)) (ea_cons (ev_var rfl) ea_nil) fun H7 e Q' q' E' => ⟨sx, rows, out, st, rfl, hSt.ex (E6.trans e), hst, fun t H8 e8 h8 => q' _ H8 e8 ⟨t, rfl, by rw [hS] at h8; exact h8⟩⟩))
          by_cases hask : v ∈ S.asks st
          · rw [if_pos hask] at eall
            rw [decide_eq_true hask] at ask
            refine s_when ask (fun _ H7 e7 => ?_) (fun z => nomatch z)
            refine s_connect rfl (hN6.mono e7) (ev_lost (ev_var rfl)) ev_c (ev_var rfl) (lo0 hp) ⟨by decide, by omega⟩ (by rw [List.length_append, List.length_append, List.length_append]; omega) fun H8 hN8 => q H8 ?_
            rw [← eall]
            exact hN8
          · rw [if_neg hask, List.append_nil] at eall
            rw [decide_eq_false hask] at ask
            refine s_when ask (fun z => nomatch z) fun _ H7 e7 => q H7 ?_
            rw [← eall]
            exact hN6.mono e7
end
end LKW

/-! network_of, least_keeps. -/
namespace LKW
open PySem PySem.Spec PyProof.Rows L2 Evl

section
variable {K : PySem.W.Frag} {σ : L2.St} {H : Hp} {tl : TE}
theorem en_dcE {a : Addr} {as : List Addr} {ps : List LK.Pt} {j1 j2 : Nat} {vs : List Nat} (h : Ev tl σ H (.ref a)) (ha : H a = some (.lst (as.map V.ref))) (hby : PtsBy H as ps) (nd : ps.Nodup) (hz : ps.length ≤ 1000)
    (hw : ∀ x y, wipe (((wipe σ vs).set j1 (some x)).set j2 (some y)) vs = wipe σ vs) (hk : ∀ x y, (((wipe σ vs).set j1 (some x)).set j2 (some y))[j2]? = some (some y)) (hv : ∀ x y, (((wipe σ vs).set j1 (some x)).set j2 (some y))[j1]? = some (some x)) :
    EvN (tDcT (iEnum K (tCons tl tNil)) (gTup K 2 (gCons (gName j1) (gCons (gName j2) gNil))) (tVar j2) (tVar j1) vs) σ H (fun D H' => H' D = some (.dT (kvPts ps))) := fun H0 e Q q => h H0 e _ fun H1 e1 => ⟨a, as.map V.ref, rfl, sq_of (e1 _ _ (e _ _ ha)), fun D hD => by
  have eb := e.trans e1
  have hlen := hby.1
  refine ⟨fun i m H' => m = ps.length - i ∧ i ≤ ps.length ∧ Ex H1 H' ∧ H' D = some (.dT (kvPts (ps.take i))), ⟨ps.length, by simp, Nat.zero_le _, Ex.new hD, by rw [upd_same]; rfl⟩, ?_⟩
  rintro i m H2 ⟨em, hi, ex, hDd⟩
  have sq : SqL K H2 a (as.map V.ref) := sq_of (ex _ _ (eb _ _ ha))
  rcases Nat.lt_or_ge i ps.length with lt | ge
  · have lt2 : i < as.length := by omega
    refine Or.inr ⟨⟨as.map V.ref, .ref as[i], sq, by rw [List.getElem?_map, List.getElem?_eq_getElem lt2]; rfl⟩, fun H' => Ex H1 H' ∧ H' D = some (.dT (kvPts (ps.take (i + 1)))), fun H' pn => ⟨m - 1, by omega, by omega, lt, pn⟩, ?_⟩
    rintro _ _ ⟨T, x, rfl, fr, rfl, hx⟩
    have hx2 := hx _ sq
    rw [List.getElem?_map, List.getElem?_eq_getElem lt2] at hx2
    cases hx2
    refine g_two upd_same ⟨hw _ _, _, hk _ _, _, hv _ _, ?_⟩
    have gp := List.getElem?_eq_getElem lt
    have hpt := (hby.ex (eb.trans ex)).2 i _ _ (List.getElem?_eq_getElem lt2) gp
    have e2 : Ex H2 (upd H2 T (.tup [.int (i : Nat), .ref as[i]])) := Ex.new fr
    refine ⟨kvPts (ps.take i), kPt ps[i], as[i], rfl, e2 _ _ hpt, e2 _ _ hDd, ?_, ?_, ?_⟩
    · unfold kvPts
      rw [kvFrom_len, List.length_take]
      exact sz_lt (by omega)
    · exact Ex.mut (ex.trans e2) hD
    · rw [upd_same, take_row gp, kvPts_snoc, putK_new, List.length_take, Nat.min_eq_left (Nat.le_of_lt lt)]
      refine kvPts_none fun hm => ?_
      obtain ⟨j, hj, ej⟩ := List.getElem_of_mem hm
      rw [List.length_take] at hj
      rw [List.getElem_take] at ej
      have := (List.getElem_inj nd).mp ej
      omega
  · have ei : i = ps.length := Nat.le_antisymm hi ge
    subst ei
    rw [List.take_length] at hDd
    exact Or.inl ⟨⟨_, sq, by rw [List.length_map]; omega⟩, q D H2 (fresh_back e1 hD) (e1.trans ex) hDd⟩⟩
end
section
variable {σ : L2.St} {H : Hp} {D : Ends} {tz : TS} {t : TA} {vs dvs : List V} {sp : Sp} {E : XK}
/-- x = C(..) -/
theorem q_make {C : Addr} {i : Nat} (h : EvA t σ H vs) (k : ∀ H1, Ex H H1 → ∀ x dx, H1 x = none → H1 dx = none → dx ≠ x → sp (.ref x :: (vs ++ dvs)) (upd (upd H1 dx (.own x)) x (.ins C dx [])) (fun v H2 => v = .non ∧ tz D (σ.set i (some (.ref x))) H2) E) :
    tSeq (tAsg (tMake C sp dvs E t) (gName i)) tz D σ H := h H (Ex.refl H) _ fun H1 e1 => k H1 e1
/-- f(..) that changes something -/
theorem s_callM (h : EvA t σ H vs) (k : ∀ H1, Ex H H1 → sp (vs ++ dvs) H1 (fun _ H2 => D.nx σ H2) E) : tDrop (tCall sp dvs E t) D σ H := h H (Ex.refl H) _ fun H1 e1 => k H1 e1
end
def spNetworkOf (CN CS : Addr) : Sp := fun vs H Q _ => ∃ (sx pl : Addr) (rows : List LK.Row) (out : List Int), vs = [.ref sx, .ref pl] ∧ StAt CS H sx rows out ∧ PtsAt H pl (LK.sysOf rows out).points ∧
  ∀ nx HB H', Ex H HB → NetAt CN HB H' nx (2 + 2 * (LK.sysOf rows out).points.length) (LK.sysOf rows out).edges (zeros (LK.sysOf rows out).edges) → Q (.ref nx) H'
theorem points_few {rows : List LK.Row} {out : List Int} (g : Good rows out) : (LK.sysOf rows out).points.length ≤ 12 := by
  have h1 := LK.points_le (LK.sysOf rows out)
  have h2 := g.few
  have e1 : (LK.sysOf rows out).stops.length = (LK.stops rows).length := rfl
  have e2 : (LK.sysOf rows out).vals.length = (LK.order rows).length := rfl
  rw [e1, e2] at h1
  omega
theorem edgesAt_len {rows : List LK.Row} {out : List Int} (g : Good rows out) (p : LK.Pt) : ((LK.sysOf rows out).edgesAt p).length ≤ 6 := by
  have h1 : ((LK.sysOf rows out).frontAt p).length ≤ 3 := by
    unfold LK.Sys.frontAt
    cases ho : (LK.sysOf rows out).ops p.1 with
    | none => simp [ho]
    | some l =>
      have := opsOf_len g (v := p.1) (l := l) ho
      simp [ho]
      omega
  have h2 : ((LK.sysOf rows out).backAt p).length ≤ 1 := by
    unfold LK.Sys.backAt
    split
    · simp
    · split <;> simp
  unfold LK.Sys.edgesAt
  simp only [List.length_append]
  have h3 : (if (LK.sysOf rows out).live p.1 p.2 then [] else [((LK.sysOf rows out).sp p, (LK.sysOf rows out).lo p, (1 : Int))] : List LK.Edge).length ≤ 1 := by split <;> simp
  have h4 : (if p.1 ∈ (LK.sysOf rows out).asks p.2 then [((LK.sysOf rows out).lo p, (1 : Int), (LK.sysOf rows out).most)] else [] : List LK.Edge).length ≤ 1 := by split <;> simp
  omega

section
variable {P : Program} {w : World} {K : PySem.W.Frag} {mg : Str → Option Value} {base : Heap} {CN CS : Addr}

theorem ok_NetworkOf {f : Addr} {fd : FuncData} (F : Fun K "network_of" "network_of" sNetworkOf f fd) (T : Txt K mg CN CS) (dConnectPoint : Df P w K mg base "connect_point" PConnectPoint 5 (spConnectPoint CN CS)) (kNetwork : Mc P w K mg base CN "Network" PNetworkInit 1 (spNetworkInit CN)) : FnOk P w K mg base CX0 6 f fd PNetworkOf (spNetworkOf CN CS) := by
  refine F.ok scNetworkOf (fun vs H Q E h => ?_) (fun cdv A outer s H vs Q E hr h => ?_)
  · obtain ⟨sx, pl, rows, out, rfl, hSt, ⟨as, hpl, hby⟩, q⟩ := h
    rfl
  · obtain ⟨sx, pl, rows, out, rfl, hSt, ⟨as, hpl, hby⟩, q⟩ := h
    have hu := hu_of hr
    refine ⟨_, (pss_cons (ps_setDcT (i := 3) (own := [("number", 5), ("point", 2)]) (g := gTup K 2 (gCons (gName 5) (gCons (gName 2) gNil))) hu rfl scNetworkOf.nd rfl rfl (swd_true rfl rfl rfl (by decide +kernel)) (pi_enum (by rfl) T.m_enumerate (pa_cons (pv 1) pa_nil)) (blkOk_by (own := [("number", 5), ("point", 2)]) (N := NNetworkOf) (sc := defScope sNetworkOf) (by decide +kernel)) (fun _ _ _ _ _ => (pg_tup rfl (pgs_cons (pg_name (i := 5) scNetworkOf.nd rfl (.inl rfl)) (pgs_cons (pg_name (i := 2) scNetworkOf.nd rfl (.inl rfl)) pgs_nil)))) (fun _ _ _ _ _ => (pv 2)) (fun _ _ _ _ _ => (pv 5)))
      (pss_cons (ps_set (i := 4) scNetworkOf.nd rfl (.inl rfl) (pe_make kNetwork.M kNetwork.G (hr.mono (by decide)) (by rfl) kNetwork.g kNetwork.b .nil pass0 (pa_cons (pe_op op_add pe_int (pe_op op_mul pe_int (pe_callB call_len_seq (by rfl) T.m_len (by decide +kernel) (pa_cons (pv 1) pa_nil)))) pa_nil)))
      (pss_cons (ps_for PassesOwn.never rfl (pi_list (pv 1)) (pg_name (i := 2) scNetworkOf.nd rfl (.inl rfl)) (pss_one (ps_expr (pe_call dConnectPoint.G (hr.mono (by decide)) (by rfl) dConnectPoint.g dConnectPoint.kp dConnectPoint.b .nil pass0 (pa_cons (pv 4) (pa_cons (pv 0) (pa_cons (pv 3) (pa_cons (pv 2) (pa_cons (pe_op op_add (pe_callB call_len_seq (by rfl) T.m_len (by decide +kernel) (pa_cons (pv 1) pa_nil)) pe_int) pa_nil)))))))))
      (pss_one (ps_ret (pv 4)))))), ?_⟩
    have hg := hSt.good
    have wf := LK.wf_sysOf (out := out) hg.valid
    have hfew := points_few hg
    have el6 := edgesAt_len hg
    generalize hS : LK.sysOf rows out = S at *
    refine q_asgN (en_dcE (ev_var rfl) hpl hby (LK.Sys.nodup_points wf) (by omega) (fun _ _ => rfl) (fun _ _ => rfl) (fun _ _ => rfl)) fun nd H1 hnd e1 hnd1 => ?_
    have hlen := hby.1
    -- network = Network(2 + 2 * len(points))
    refine q_make (vs := [.int ((2 + 2 * S.points.length : Nat) : Int)]) (ea_cons (ev_is (ev_op ev_c (ev_op ev_c (ev_len (ev_var rfl) (sq_of (e1 _ _ hpl))) (rv_I (.inl ⟨by decide, by decide⟩))) rv_I0) (by rw [List.length_map, hlen]; congr 1)) ea_nil) fun H2 e2 nx dx hnx hdx hne => ?_
    have eN : Ex H2 (upd (upd H2 dx (.own nx)) nx (.ins CN dx [])) := (Ex.new hdx).trans (Ex.new (by rw [upd_ne hne.symm]; exact hnx))
    refine ⟨H2, nx, dx, _, rfl, eN, hnx, upd_same, by omega, fun H3 hN3 => ⟨rfl, ?_⟩⟩
    have E2 := e1.trans e2
    refine q_forLn (a := pl) (xs := as.map V.ref) (ev_var rfl) (sq_of (hN3.base _ _ (E2 _ _ hpl))) (fun i σ' H' => ∃ y2, σ' = [some (.ref sx), some (.ref pl), y2, some (.ref nd), some (.ref nx), none] ∧ NetAt CN H2 H' nx (2 + 2 * S.points.length) ((S.points.take i).flatMap S.edgesAt) (zeros ((S.points.take i).flatMap S.edgesAt))) ?_ ?_ ?_ ?_
    · intro H4 e4
      exact ⟨none, rfl, hN3.mono e4⟩
    · rintro i σ' H' _ ⟨_, _, h⟩
      exact sq_of (h.base _ _ (E2 _ _ hpl))
    · rintro i x σ' H' hx ⟨y2, rfl, hN'⟩
      obtain ⟨b, p, rfl, hb, hp, hpt⟩ := hby.item hx
      have hi : i < S.points.length := (List.getElem?_eq_some_iff.mp hp).1
      have hlE : ((S.points.take i).flatMap S.edgesAt).length ≤ 6 * i := by
        have : ∀ L : List LK.Pt, (L.flatMap S.edgesAt).length ≤ 6 * L.length := by
          intro L
          induction L with
          | nil => simp
          | cons a L ih => rw [List.flatMap_cons, List.length_append, List.length_cons]; have := el6 a; omega
        have := this (S.points.take i)
        rw [List.length_take] at this
        omega
      have hpl' := hN'.base _ _ (E2 _ _ hpl)
      refine s_callM (vs := [.ref nx, .ref sx, .ref nd, .ref b, .int S.most]) (ea_cons (ev_var rfl) (ea_cons (ev_var rfl) (ea_cons (ev_var rfl) (ea_cons (ev_var rfl) (ea_cons (ev_is (ev_op (ev_len (ev_var rfl) (sq_of hpl')) ev_c rv_I0) (by rw [List.length_map, hlen]; rfl)) ea_nil))))) fun H4 e4 => ?_
      refine ⟨H2, nx, sx, nd, b, rows, out, p, (S.points.take i).flatMap S.edgesAt, by rw [hS]; rfl, by rw [hS]; exact hN'.mono e4, hSt.ex E2, by rw [hS]; exact e2 _ _ hnd1, E2 _ _ hpt, by rw [hS]; exact List.mem_of_getElem? hp, by omega, fun H5 hN5 => ⟨_, rfl, ?_⟩⟩
      rw [hS] at hN5
      rw [take_row hp, List.flatMap_append]
      simp only [List.flatMap_cons, List.flatMap_nil, List.append_nil]
      exact hN5
    · rintro σ' H' ⟨y2, rfl, hN'⟩
      rw [List.length_map, hlen, List.take_length] at hN'
      exact s_ret (ev_var rfl) fun H4 e4 => q nx H2 H4 E2 (hN'.mono e4)
end
end LKW

/-! least_keeps. -/
namespace LKW
open PySem PySem.Spec PyProof.Rows L2 Evl

def SLe (a b : LK.Pt) : Prop := SrtO.lexB (b.1, ((b.2 : Nat) : Int)) (a.1, ((a.2 : Nat) : Int)) = false
theorem SLe.anti {a b : LK.Pt} (h : SLe a b) (k : SLe b a) : a = b := by
  unfold SLe at h k
  rw [SrtO.lexB_no] at h k
  obtain ⟨a1, a2⟩ := a
  obtain ⟨b1, b2⟩ := b
  simp only at h k
  have e1 : a1 = b1 := by omega
  have e2 : a2 = b2 := by omega
  rw [e1, e2]
theorem edges_in {S : LK.Sys} (w : S.Wf) : EdgesIn (2 + 2 * S.points.length) S.edges := by
  have ix : ∀ {p : LK.Pt}, p ∈ S.points → (0 ≤ S.idx p ∧ S.idx p < S.points.length) := fun hp => ⟨LK.Sys.idx_nonneg _, LK.Sys.idx_lt hp⟩
  have sp0 : ∀ {p : LK.Pt}, p ∈ S.points → (0 ≤ S.sp p ∧ S.sp p < ((2 + 2 * S.points.length : Nat) : Int)) := fun hp => by have := ix hp; unfold LK.Sys.sp; omega
  have lo0 : ∀ {p : LK.Pt}, p ∈ S.points → (0 ≤ S.lo p ∧ S.lo p < ((2 + 2 * S.points.length : Nat) : Int)) := fun hp => by have := ix hp; unfold LK.Sys.lo; omega
  intro e he
  obtain ⟨⟨v, s⟩, hp, he⟩ := List.mem_flatMap.mp he
  have z0 : (0 : Int) ≤ 0 ∧ (0 : Int) < ((2 + 2 * S.points.length : Nat) : Int) := by omega
  have z1 : (0 : Int) ≤ 1 ∧ (1 : Int) < ((2 + 2 * S.points.length : Nat) : Int) := by omega
  unfold LK.Sys.edgesAt at he
  simp only [List.mem_append] at he
  rcases he with he | he | he | he
  · unfold LK.Sys.frontAt at he
    cases ho : S.ops v with
    | none =>
      simp [ho] at he
      subst he
      exact ⟨z0, sp0 hp⟩
    | some l =>
      simp only [ho, List.mem_map] at he
      obtain ⟨o, hm, rfl⟩ := he
      exact ⟨lo0 (op_point w hp ho hm), sp0 hp⟩
  · split at he
    · simp at he
    · simp at he; subst he; exact ⟨sp0 hp, lo0 hp⟩
  · unfold LK.Sys.backAt at he
    split at he
    · simp at he
    · split at he
      · simp at he
        subst he
        rename_i hin
        exact ⟨lo0 hin, lo0 hp⟩
      · simp at he
  · split at he
    · simp at he; subst he; exact ⟨lo0 hp, z1⟩
    · simp at he
def spLeastKeeps (CS : Addr) : Sp := fun vs H Q _ => ∃ (sx : Addr) (rows : List LK.Row) (out : List Int), vs = [.ref sx] ∧ StU CS H sx rows out ∧
  ∀ p H' ks, H p = none → Ex H H' → PtsAt H' p ks → LK.Sys.Least (LK.sysOf rows out) ks → ks.Pairwise SLe → Q (.ref p) H'
theorem idx_at {S : LK.Sys} (w : S.Wf) {i : Nat} {p : LK.Pt} (h : S.points[i]? = some p) : S.idx p = (i : Nat) := by
  have nd := LK.Sys.nodup_points w
  obtain ⟨hi, rfl⟩ := List.getElem?_eq_some_iff.mp h
  have hm := List.getElem_mem hi
  have lt := List.idxOf_lt_length_of_mem hm
  have e := List.getElem_idxOf lt
  have := (List.getElem_inj nd).mp e
  unfold LK.Sys.idx
  omega
section
variable {σ : L2.St} {H : Hp} {D : Ends} {tz : TS} {t : TA} {vs dvs : List V} {spA spB : Sp} {E1 E2 : XK}
/-- x = f(..).m() -/
theorem q_methOf {C : Addr} {m : Str} {i : Nat} (h : EvA t σ H vs) (k : ∀ H1, Ex H H1 → spA (vs ++ dvs) H1 (fun v H2 => ∃ a dx fs, v = .ref a ∧ H2 a = some (.ins C dx fs) ∧ fs.lookup m = none ∧ spB [v] H2 (fun u H3 => tz D (σ.set i (some u)) H3) E2) E1) :
    tSeq (tAsg (tMeth C m spB [] E2 (tCall spA dvs E1 t) tNil) (gName i)) tz D σ H := h H (Ex.refl H) _ fun H1 e1 => k H1 e1
end
/-- the two ints of a point's tuple -/
def ptK (H : Hp) (v : V) : Int × Int := match v with
  | .ref t => (match H t with
    | some (.tup [.int a, .int b]) => (a, b)
    | _ => (0, 0))
  | _ => (0, 0)
def unref (v : V) : Addr := match v with
  | .ref t => t
  | _ => 0
def ptOf (H : Hp) (v : V) : LK.Pt := ((ptK H v).1, (ptK H v).2.toNat)
theorem ptK_at {H : Hp} {t : Addr} {p : LK.Pt} (h : IsPt H t p) : ptK H (.ref t) = (p.1, ((p.2 : Nat) : Int)) := by
  unfold ptK
  show (match H t with | some (.tup [.int a, .int b]) => (a, b) | _ => ((0, 0) : Int × Int)) = _
  rw [show H t = _ from h]
theorem ptOf_at {H : Hp} {t : Addr} {p : LK.Pt} (h : IsPt H t p) : ptOf H (.ref t) = p := by
  unfold ptOf
  rw [ptK_at h]
  simp
theorem pts_map {H : Hp} {as : List Addr} {ps : List LK.Pt} (h : PtsBy H as ps) : (as.map V.ref).map (ptOf H) = ps := by
  refine List.ext_getElem? fun i => ?_
  rw [List.getElem?_map, List.getElem?_map]
  cases e : as[i]? with
  | none =>
    have : ps.length ≤ i := by rw [← h.1]; exact List.getElem?_eq_none_iff.mp e
    rw [List.getElem?_eq_none this]; rfl
  | some b =>
    have lt : i < ps.length := by rw [← h.1]; exact (List.getElem?_eq_some_iff.mp e).1
    have gp := List.getElem?_eq_getElem lt
    rw [gp]
    show some (ptOf H (.ref b)) = _
    rw [ptOf_at (h.2 i b _ e gp)]
/-- a sorted list of the points' tuples -/
theorem sorted_pts {H : Hp} {as : List Addr} {ps : List LK.Pt} {ys : List V} (h : PtsBy H as ps) (hs : SrtO.Srtd (ltP (ptK H)) ys) (hp : ys.Perm (as.map V.ref)) :
    ys = (ys.map unref).map V.ref ∧ PtsBy H (ys.map unref) (ys.map (ptOf H)) ∧ (ys.map (ptOf H)).Perm ps ∧ (ys.map (ptOf H)).Pairwise SLe := by
  have mem : ∀ v ∈ ys, ∃ t p, v = .ref t ∧ IsPt H t p := fun v hv => by
    obtain ⟨i, hi⟩ := List.getElem?_of_mem (hp.mem_iff.mp hv)
    obtain ⟨b, p, rfl, _, _, hpt⟩ := h.item hi
    exact ⟨b, p, rfl, hpt⟩
  refine ⟨?_, ⟨by rw [List.length_map, List.length_map], fun i b p h1 h2 => ?_⟩, ?_, ?_⟩
  · rw [List.map_map]
    have : ys.map (V.ref ∘ unref) = ys.map id := List.map_congr_left fun v hv => by
      obtain ⟨t, p, rfl, _⟩ := mem v hv
      rfl
    rw [this, List.map_id]
  · rw [List.getElem?_map] at h1 h2
    cases e : ys[i]? with
    | none => rw [e] at h1; cases h1
    | some v =>
      rw [e] at h1 h2
      obtain ⟨t, p', rfl, hpt⟩ := mem v (List.mem_of_getElem? e)
      cases h1
      cases h2
      rw [ptOf_at hpt]
      exact hpt
  · have := hp.map (ptOf H)
    rw [pts_map h] at this
    exact this
  · rw [List.pairwise_map]
    refine List.Pairwise.imp_of_mem ?_ hs
    intro a b ha hb hl
    obtain ⟨t, p, rfl, hpt⟩ := mem a ha
    obtain ⟨t2, p2, rfl, hpt2⟩ := mem b hb
    unfold SLe
    rw [ptOf_at hpt, ptOf_at hpt2]
    have hl2 : SrtO.lexB (ptK H (.ref t2)) (ptK H (.ref t)) = false := hl
    rw [ptK_at hpt, ptK_at hpt2] at hl2
    exact hl2

section
variable {P : Program} {w : World} {K : PySem.W.Frag} {mg : Str → Option Value} {base : Heap} {CN CS : Addr}

theorem ok_LeastKeeps {f : Addr} {fd : FuncData} (F : Fun K "least_keeps" "least_keeps" sLeastKeeps f fd) (T : Txt K mg CN CS) (dLostNode : Df P w K mg base "lost_node" PLostNode 1 (spLostNode)) (dNetworkOf : Df P w K mg base "network_of" PNetworkOf 6 (spNetworkOf CN CS)) (dPointsOf : Df P w K mg base "points_of" PPointsOf 3 (spPointsOf CS)) (dSpreadNode : Df P w K mg base "spread_node" PSpreadNode 1 (spSpreadNode)) (mFill : Md P w K mg base CN "fill" PNetworkFill 3 (spFill CN)) (mIsLive : Md P w K mg base CS "is_live" PStretchIsLive 2 (spStretchIsLive CS)) : FnOk P w K mg base CX0 7 f fd PLeastKeeps (spLeastKeeps CS) := by
  refine F.ok scLeastKeeps (fun vs H Q E h => ?_) (fun cdv A outer s H vs Q E hr h => ?_)
  · obtain ⟨sx, rows, out, rfl, hSt, q⟩ := h
    rfl
  · obtain ⟨sx, rows, out, rfl, hSt, q⟩ := h
    have hu := hu_of hr
    refine ⟨_, (pss_cons (ps_set (i := 1) scLeastKeeps.nd rfl (.inl rfl) (pe_call dPointsOf.G (hr.mono (by decide)) (by rfl) dPointsOf.g dPointsOf.kp dPointsOf.b .nil pass0 (pa_cons (pv 0) pa_nil)))
      (pss_cons (ps_set (i := 2) scLeastKeeps.nd rfl (.inl rfl) (pe_meth0 (pe_call dNetworkOf.G (hr.mono (by decide)) (by rfl) dNetworkOf.g dNetworkOf.kp dNetworkOf.b .nil pass0 (pa_cons (pv 0) (pa_cons (pv 1) pa_nil))) T.clNetwork mFill.M mFill.G (hr.mono (by decide)) mFill.b .nil pass0))
      (pss_cons (ps_set (i := 3) scLeastKeeps.nd rfl (.inl rfl) (pe_lst pa_nil))
      (pss_cons (ps_for PassesOwn.never rfl (pi_enum (by rfl) T.m_enumerate (pa_cons (pv 1) pa_nil)) (pg_tup rfl (pgs_cons (pg_name (i := 4) scLeastKeeps.nd rfl (.inl rfl)) (pgs_cons (pg_tup rfl (pgs_cons (pg_name (i := 5) scLeastKeeps.nd rfl (.inl rfl)) (pgs_cons (pg_name (i := 6) scLeastKeeps.nd rfl (.inl rfl)) pgs_nil))) pgs_nil))) (pss_one (ps_if (PW.pt (pw_and (pt_cmp (pc_din hu (pe_call dSpreadNode.G (hr.mono (by decide)) (by rfl) dSpreadNode.g dSpreadNode.kp dSpreadNode.b .nil pass0 (pa_cons (pv 4) pa_nil)) (pv 2))) (pw_and (pt_cmp (pc_dnotin hu (pe_call dLostNode.G (hr.mono (by decide)) (by rfl) dLostNode.g dLostNode.kp dLostNode.b .nil pass0 (pa_cons (pv 4) pa_nil)) (pv 2))) (pw_and1 (pt_not (pt_val (pe_meth (pv 0) T.clStretch mIsLive.M mIsLive.G (hr.mono (by decide)) mIsLive.b .nil pass0 (pa_cons (pv 5) (pa_cons (pv 6) pa_nil))))))))) (pss_one (ps_expr (pe_bm PySem.F.plainAttrs_list PySem.F.slot_list_append PySem.F.type_list_append mt_append (pv 3) (pa_cons (pe_tup (pa_cons (pv 5) (pa_cons (pv 6) pa_nil))) pa_nil)))) pss_nil)))
      (pss_one (ps_ret (pe_callB cr_sortedPO (by rfl) T.m_sorted (by decide +kernel) (pa_cons (pv 3) pa_nil)))))))), ?_⟩
    have hg := hSt.at_.good
    have wf := LK.wf_sysOf (out := out) hg.valid
    have hfew := points_few hg
    refine q_asgN (P := fun p H => PtsAt H p (LK.sysOf rows out).points) (ev_callN (ea_cons (ev_var rfl) ea_nil) fun H1 e Q' q' E' => ⟨sx, rows, out, rfl, hSt.ex e, fun p H' hp e' h' => q' p H' hp e' h'⟩) fun pl H1 hpl e1 hP1 => ?_
    have St1 := hSt.ex e1
    -- found = network_of(stretch, points).fill()
    refine q_methOf (vs := [.ref sx, .ref pl]) (ea_cons (ev_var rfl) (ea_cons (ev_var rfl) ea_nil)) fun H2 e2 => ⟨sx, pl, rows, out, rfl, (St1.ex e2).at_, hP1.ex e2, fun nx HB H3 eB hN3 => ?_⟩
    generalize hS : LK.sysOf rows out = S at *
    obtain ⟨dx, le, lf, la, ts, as0, SN⟩ := id hN3
    refine ⟨nx, dx, _, rfl, SN.ins, ntF_no _ _ _ (by decide +kernel) (by decide +kernel) (by decide +kernel), HB, nx, 2 + 2 * S.points.length, S.edges, zeros S.edges, 0, S.points.length, rfl, hN3, edges_in wf, by omega, by omega, LK.flow_zero LK.Sys.cap_nonneg, fun F' v' hf => LK.Sys.val_most wf hf, fun d H4 F4 v4 ks hN4 fa4 fl4 fo4 cl4 h14 => ?_⟩
    have E4 : Ex H H4 := ((e1.trans e2).trans eB).trans hN4.base
    have E14 : Ex H1 H4 := (e2.trans eB).trans hN4.base
    obtain ⟨as, hpl4, hby4⟩ := hP1.ex E14
    have St4 := St1.ex E14
    obtain ⟨kvs, hd4, hbk4⟩ := fa4
    have hlen := hby4.1
    -- keeps = []
    refine q_asgL (el_lst ea_nil (by simp)) fun kp H5 hkp e5 hk5 => ?_
    have hkpH : H kp = none := fresh_back E4 hkp
    refine q_forE (ev_var rfl) (sq_of (e5 _ _ hpl4)) (fun i σ' H' => ∃ (y4 y5 y6 : Option V) (bs : List Addr), σ' = [some (.ref sx), some (.ref pl), some (.ref d), some (.ref kp), y4, y5, y6] ∧ Ex H4 H' ∧ H' kp = some (.lst (bs.map V.ref)) ∧ PtsBy H' bs ((S.points.take i).filter (S.cut (LK.inKs ks)))) ?_ ?_ ?_ ?_
    · intro H6 e6
      exact ⟨none, none, none, [], rfl, e5.trans e6, e6 _ _ hk5, rfl, fun i b p h _ => by simp at h⟩
    · rintro i σ' H' _ ⟨_, _, _, _, _, ex, _⟩
      exact sq_of (ex _ _ hpl4)
    · rintro i x σ' H' Tp H6 hx ⟨y4, y5, y6, bs, rfl, ex, hkp', hby'⟩ hT eT h6
      obtain ⟨b, ⟨v, st⟩, rfl, hb, hp, hpt⟩ := hby4.item hx
      have hi : i < S.points.length := (List.getElem?_eq_some_iff.mp hp).1
      have ex6 := ex.trans eT
      refine ⟨Tp, _, rfl, st_of h6, rfl, .int (i : Nat), [.ref b], rfl, .ref b, [], rfl, b, [.int v, .int (st : Nat)], rfl, st_of (ex6 _ _ hpt), rfl, .int v, [.int (st : Nat)], rfl, .int (st : Nat), [], rfl, rfl, rfl, ?_⟩
      have hpm := List.mem_of_getElem? hp
      have hm := LK.Sys.mem_points.mp hpm
      have hvo : v ∈ LK.order rows := by have := hm.1; rw [← hS] at this; exact this
      have hst : st < (LK.stops rows).length := by have := hm.2.1; rw [← hS] at this; exact this
      have ei := idx_at wf hp
      have esp : S.sp (v, st) = 2 + 2 * ((i : Nat) : Int) := by unfold LK.Sys.sp; rw [ei]
      have elo : S.lo (v, st) = 3 + 2 * ((i : Nat) : Int) := by unfold LK.Sys.lo; rw [ei]
      obtain ⟨dx6, vp6, ro6, oo6, sp6, np6, nk6, as6, SA6⟩ := (St4.ex ex6).at_
      have tst : EvT (tAnd (tB (tDIn (tCall spSpreadNode [] E0 (tCons (tVar 4) tNil)) (tVar 2))) (tAnd (tB (tDNotIn (tCall spLostNode [] E0 (tCons (tVar 4) tNil)) (tVar 2))) (tNot (tB (tMeth CS "is_live" (spStretchIsLive CS) [] E0 (tVar 0) (tCons (tVar 5) (tCons (tVar 6) tNil)))))))
          [some (.ref sx), some (.ref pl), some (.ref d), some (.ref kp), some (.int (i : Nat)), some (.int v), some (.int (st : Nat))] H6 (S.cut (LK.inKs ks) (v, st)) := by
        unfold LK.Sys.cut
        rw [esp, elo, Bool.and_assoc]
        refine et_and (et_B (ev_is (ev_din (ev_spread (ev_var rfl)) (ev_var rfl) (.inl (ex6 _ _ hd4))) (by rw [hbk4.has fo4.nodup]))) fun _ => et_and (et_B (ev_is (ev_dni (ev_lost (ev_var rfl)) (ev_var rfl) (.inl (ex6 _ _ hd4))) (by rw [hbk4.has fo4.nodup]))) fun _ => et_not (et_B ?_)
        exact ev_meth (ev_var rfl) SA6.ins (stF_no _ _ _ _ _ (by decide +kernel) (by decide +kernel) (by decide +kernel) (by decide +kernel) (by decide +kernel)) (ea_cons (ev_var rfl) (ea_cons (ev_var rfl) ea_nil)) fun H7 e Q' q' E' => ⟨sx, rows, out, v, st, rfl, (St4.ex (ex6.trans e)).at_, hvo, hst, by rw [hS]; exact q'⟩
      have hkp6 := eT _ _ hkp'
      have hby6 := hby'.ex eT
      cases hc : S.cut (LK.inKs ks) (v, st) with
      | false =>
        rw [hc] at tst
        refine s_when tst (fun z => nomatch z) fun _ H7 e7 => ⟨_, _, _, bs, rfl, ex6.trans e7, e7 _ _ hkp6, ?_⟩
        rw [take_row hp, List.filter_append, List.filter_cons, hc]
        simp only [Bool.false_eq_true, if_false, List.filter_nil, List.append_nil]
        exact hby6.ex e7
      | true =>
        rw [hc] at tst
        refine s_when tst (fun _ H7 e7 => ?_) (fun z => nomatch z)
        have hbl : bs.length ≤ 12 := by
          rw [hby6.1]
          have h1 := List.length_filter_le (S.cut (LK.inKs ks)) (S.points.take i)
          rw [List.length_take] at h1
          omega
        refine s_appU (ys := [.int v, .int (st : Nat)]) (e7 _ _ hkp6) (ev_var rfl) (eu_tup (ea_cons (ev_var rfl) (ea_cons (ev_var rfl) ea_nil)) (by show 2 ≤ 100000; decide)) (by rw [List.length_map]; omega) fun t H8 ht e8 h8 => ?_
        have hkp8 := e8 _ _ (e7 _ _ hkp6)
        refine ⟨_, _, _, bs ++ [t], rfl, Ex.mut ((ex6.trans e7).trans e8) hkp, by rw [upd_same, List.map_append]; rfl, ?_⟩
        rw [take_row hp, List.filter_append, List.filter_cons, hc]
        simp only [if_true, List.filter_nil]
        refine PtsBy.snoc ((hby6.ex (e7.trans e8)).keep fun c xs hc => tup_keep hkp8 hc) ?_
        exact tup_keep hkp8 h8
    · rintro σ' H' ⟨y4, y5, y6, bs, rfl, ex, hkp', hby'⟩
      rw [List.length_map, hlen, List.take_length] at hby'
      -- return sorted(keeps)
      refine ⟨.ref kp, rfl, kp, bs.map V.ref, ptK H', rfl, sq_of hkp', fun x hx => ?_, fun ys p hs hst hp => ?_⟩
      · obtain ⟨i, hi⟩ := List.getElem?_of_mem hx
        obtain ⟨b, pt, rfl, _, _, hpt⟩ := hby'.item hi
        refine ⟨b, rfl, ?_⟩
        rw [ptK_at hpt]
        exact hpt
      · obtain ⟨ey, hb2, hperm, hsort⟩ := sorted_pts hby' hs hst.perm
        have least : LK.Sys.Least S (S.points.filter (S.cut (LK.inKs ks))) := LK.Sys.least_cut wf fl4 fo4.in0 h14 cl4 fun R' r0 hc x hx => fo4.least r0 hc x hx
        have eN := Ex.new (o := .lst ys) hp
        refine q p _ _ (fresh_back (E4.trans ex) hp) ((E4.trans ex).trans eN) ⟨ys.map unref, ?_, hb2.ex eN⟩ (least.perm hperm) hsort
        rw [upd_same, ← ey]
end
end LKW

/-! The law's drawing: pot, draw, shuffled. -/
namespace LKW
open PySem PySem.Spec PyProof.Rows L2 Evl

def PotAt (H : Hp) (p : Addr) : Prop := ∃ a b : Int, H p = some (.lst [.int a, .int b]) ∧ 0 ≤ a ∧ 0 ≤ b ∧ b < 2147483648
/-- all but the object at p stands -/
def Pex (p : Addr) (H H' : Hp) : Prop := ∀ a o, a ≠ p → H a = some o → H' a = some o
theorem Pex.refl {p : Addr} {H : Hp} : Pex p H H := fun _ _ _ h => h
theorem Pex.trans {p : Addr} {H H1 H2 : Hp} (a : Pex p H H1) (b : Pex p H1 H2) : Pex p H H2 := fun x o n h => b x o n (a x o n h)
theorem Pex.of {p : Addr} {H H' : Hp} (e : Ex H H') : Pex p H H' := fun a o _ h => e a o h
theorem PotAt.ex {p : Addr} {H H' : Hp} (h : PotAt H p) (e : Ex H H') : PotAt H' p := let ⟨a, b, h1, h2⟩ := h; ⟨a, b, e _ _ h1, h2⟩
theorem PotAt.pex {p q : Addr} {H H' : Hp} (h : PotAt H p) (e : Pex q H H') (n : p ≠ q) : PotAt H' p := let ⟨a, b, h1, h2⟩ := h; ⟨a, b, e _ _ n h1, h2⟩
theorem PotAt.ne {p q : Addr} {H : Hp} (h : PotAt H p) (hq : H q = none) : q ≠ p := fun z => by
  obtain ⟨a, b, h1, _⟩ := h
  rw [z, h1] at hq
  cases hq
/-- an object that was new behind H -/
theorem Pex.mut {p q : Addr} {H H' : Hp} {o : HO} (e : Pex p H H') (h : H q = none) : Pex p H (upd H' q o) := fun a u n ha => by
  rw [upd_ne (ne_of_none ha h)]
  exact e a u n ha
theorem Pex.set {p : Addr} {H H' : Hp} {o : HO} (e : Pex p H H') : Pex p H (upd H' p o) := fun a u n ha => by
  rw [upd_ne n]
  exact e a u n ha
theorem Pex.none {p q : Addr} {H H' : Hp} (e : Pex p H H') (n : q ≠ p) (h : H' q = none) : H q = none := by
  cases hh : H q with
  | none => rfl
  | some o => rw [e q o n hh] at h; cases h
def spPot (K : PySem.W.Frag) : Sp := fun vs H Q _ => ∃ (a : Addr) (ns : List Int) (k : Nat), vs = [.ref a, .int (k : Nat)] ∧ SqL K H a (ns.map V.int) ∧ k ≤ 3 ∧ ∀ p H', H p = none → Ex H H' → PotAt H' p → Q (.ref p) H'
def spDraw : Sp := fun vs H Q _ => ∃ (p : Addr) (m : Int), vs = [.ref p, .int m] ∧ PotAt H p ∧ (0 < m ∧ m ≤ 100000) ∧ ∀ d H', 0 ≤ d → d < m → Pex p H H' → PotAt H' p → Q (.int d) H'
def spShuffled : Sp := fun vs H Q _ => ∃ (p t : Addr) (xs : List V), vs = [.ref p, .ref t] ∧ PotAt H p ∧ H t = some (.lst xs) ∧ t ≠ p ∧ xs.length ≤ 10000 ∧ ∀ l H' ys, H l = none → l ≠ p → Pex p H H' → PotAt H' p → H' l = some (.lst ys) → ys.Perm xs → Q (.ref l) H'

theorem erase_perm {α : Type} : ∀ {xs : List α} {k : Nat} {y : α}, xs[k]? = some y → (y :: xs.eraseIdx k).Perm xs
  | [], k, y, h => by simp at h
  | x :: xs, 0, y, h => by simp at h; subst h; exact List.Perm.refl _
  | x :: xs, k + 1, y, h => by
    have ih := erase_perm (xs := xs) (k := k) (y := y) (by simpa using h)
    exact (List.Perm.swap x y _).trans (ih.cons x)
section
variable {K : PySem.W.Frag} {σ : L2.St} {H : Hp} {ta tb : TE}
theorem ev_abs {i : Int} (ha : Ev ta σ H (.int i)) : Ev (tCB (fun xs H Q => ∃ i, xs = [.int i] ∧ Q (.int (if i < 0 then -i else i)) H) (tCons ta tNil)) σ H (.int (if i < 0 then -i else i)) := fun H1 e Q q => ha H1 e _ fun H2 e2 => ⟨i, rfl, q H2 e2⟩
theorem draw_call {p : Addr} {m : Int} {E : XK} {Q : VK} (h : Ev ta σ H (.ref p)) (hm : Ev tb σ H (.int m)) (hp : PotAt H p) (h0 : 0 < m) (h1 : m ≤ 100000) (k : ∀ d H', 0 ≤ d → d < m → Pex p H H' → PotAt H' p → Q (.int d) H') :
    tCall spDraw [] E (tCons ta (tCons tb tNil)) σ H Q := (ea_cons h (ea_cons hm ea_nil)) H (Ex.refl H) _ fun H1 e1 => ⟨p, m, rfl, hp.ex e1, ⟨h0, h1⟩, fun d H' d0 d1 ex hp' => k d H' d0 d1 ((Pex.of e1).trans ex) hp'⟩
end
section
variable {K : PySem.W.Frag} {σ : L2.St} {H : Hp} {ta tb te : TE} {g : TG} {tz : TS} {D : Ends} {v : V} {P : Addr → Hp → Prop}
theorem q_asgE (h : Ev te σ H v) (k : ∀ H1, Ex H H1 → g v σ H1 (tz D)) : tSeq (tAsg te g) tz D σ H := h H (Ex.refl H) _ k
theorem q_asgEN (h : EvN te σ H P) (k : ∀ p H1, H p = none → Ex H H1 → P p H1 → g (.ref p) σ H1 (tz D)) : tSeq (tAsg te g) tz D σ H := h H (Ex.refl H) _ fun p H1 hp e h1 => k p H1 hp e h1
theorem ev_divmod {i j : Int} (ha : Ev ta σ H (.int i)) (hb : Ev tb σ H (.int j)) (hc : CDiv i j) : EvU (tCB (fun xs H Q => ∃ i j, xs = [.int i, .int j] ∧ CDiv i j ∧ ∀ p, H p = none → Q (.ref p) (upd H p (.tup [.int (i / j), .int (i % j)]))) (tCons ta (tCons tb tNil))) σ H [.int (i / j), .int (i % j)] := fun H1 e Q q =>
  (ea_cons ha (ea_cons hb ea_nil)) H1 e _ fun H2 e2 => ⟨i, j, rfl, hc, fun p hp => q p _ (fresh_back e2 hp) (e2.trans (Ex.new hp)) upd_same⟩
end
section
variable {K : PySem.W.Frag} {σ : L2.St} {H : Hp} {te : TE} {D : Ends} {Q : VK}
theorem s_retR (h : te σ H D.rt) : tRet te D σ H := h
/-- a comprehension over a range of which each turn may write elsewhere -/
theorem lc_rngI {ta : TA} {n j : Nat} {vs : List Nat} (h : EvA ta σ H [.int (n : Nat)]) (hn : n ≤ 40000) (hw : ∀ x, wipe ((wipe σ vs).set j (some x)) vs = wipe σ vs) (Pv : Addr → Nat → Hp → Prop) (h0 : ∀ L H1, Ex H H1 → H1 L = none → Pv L 0 (upd H1 L (.lst [])))
    (hs : ∀ L i H1, i < n → Pv L i H1 → te ((wipe σ vs).set j (some (.int (0 + (i : Int))))) H1 fun y H4 => ∃ acc, H4 L = some (.lst acc) ∧ acc.length < sizeLine ∧ Pv L (i + 1) (upd H4 L (.lst (acc ++ [y])))) (hd : ∀ L H1, Pv L n H1 → Q (.ref L) H1) :
    tLc (iRng1 ta) (gName j) tYes te vs σ H Q := h H (Ex.refl H) _ fun H2 e2 => ⟨n, rfl, by omega, by omega, fun L hL =>
  lc_range (Pv L) (h0 L H2 e2 hL) (fun i H1 hi pv => ⟨hw _, hs L i H1 (by omega) pv⟩) (fun H1 pv => hd L H1 (by rw [Int.toNat_natCast] at pv; exact pv))⟩
/-- .. over a list that comes of a call which wrote elsewhere -/
theorem lc_lstI {tl : TE} {j : Nat} {vs : List Nat} (Pv : List V → Addr → Addr → Nat → Hp → Prop) (h : ∀ R : VK, (∀ a xs H1, H1 a = some (.lst xs) → (∀ L, H1 L = none → Pv xs a L 0 (upd H1 L (.lst []))) → R (.ref a) H1) → tl σ H R)
    (hw : ∀ x, wipe ((wipe σ vs).set j (some x)) vs = wipe σ vs) (hl : ∀ xs a L i H1, Pv xs a L i H1 → H1 a = some (.lst xs))
    (hs : ∀ xs a L i x H1, xs[i]? = some x → Pv xs a L i H1 → te ((wipe σ vs).set j (some x)) H1 fun y H4 => ∃ acc, H4 L = some (.lst acc) ∧ acc.length < sizeLine ∧ Pv xs a L (i + 1) (upd H4 L (.lst (acc ++ [y])))) (hd : ∀ xs a L H1, Pv xs a L xs.length H1 → Q (.ref L) H1) :
    tLc (iList K tl) (gName j) tYes te vs σ H Q := h _ fun a xs H1 ha h0 =>
  ⟨a, rfl, ⟨xs, sq_of ha⟩, fun L hL => lc_list (Pv xs a L) (h0 L hL) (fun i H2 _ pv => sq_of (hl xs a L i H2 pv)) (fun i x H2 hi pv => ⟨hw _, hs xs a L i x H2 hi pv⟩) (fun H2 pv => hd xs a L H2 pv)⟩
end
theorem fmod_in (i : Int) {j : Int} (h : 0 < j) : 0 ≤ i.fmod j ∧ i.fmod j < j := ⟨Int.fmod_nonneg_of_pos i h, Int.fmod_lt_of_pos i h⟩

section
variable {P : Program} {w : World} {K : PySem.W.Frag} {mg : Str → Option Value} {base : Heap} {CN CS : Addr}

theorem ok_Pot {f : Addr} {fd : FuncData} (F : Fun K "_law_pot" "_law_pot" sPot f fd) (T : Txt K mg CN CS)  : FnOk P w K mg base CX0 1 f fd PPot (spPot K) := by
  refine F.ok scPot (fun vs H Q E h => ?_) (fun cdv A outer s H vs Q E hr h => ?_)
  · obtain ⟨a, ns, k, rfl, hS, hk, q⟩ := h
    rfl
  · obtain ⟨a, ns, k, rfl, hS, hk, q⟩ := h
    refine ⟨_, (pss_cons (ps_set (i := 2) scPot.nd rfl (.inl rfl) (pe_ifExp (pt_cmpR op_lt (pv 1) (pe_callB call_len_seq (by rfl) T.m_len (by decide +kernel) (pa_cons (pv 0) pa_nil)) (nomark _)) (pe_callB call_abs (by rfl) T.m_abs (by decide +kernel) (pa_cons (pe_ix ix_list (pv 0) (pv 1) (fun _ _ => rfl)) pa_nil)) pe_int))
      (pss_one (ps_ret (pe_lst (pa_cons (pe_callB (call_max2 rfl) (by rfl) T.m_max (by decide +kernel) (pa_cons pe_int (pa_cons (pe_op op_sub (pv 2) (pe_op op_pow pe_int pe_int)) pa_nil))) (pa_cons (pe_op op_add (pe_op op_modN (pe_callTy call_int1 (by rfl) T.m_int (by decide +kernel) (pa_cons (pe_op op_pow (pe_op op_add (pe_op op_add (pe_op op_modN (pe_callTy call_int1 (by rfl) T.m_int (by decide +kernel) (pa_cons (pv 2) pa_nil)) pe_int) (pe_op op_mul pe_int (pv 1))) pe_int) pe_int) pa_nil)) pe_int) pe_int) pa_nil)))))), ?_⟩
    refine q_asgP (PV := fun v _ => ∃ c : Int, v = .int c ∧ 0 ≤ c) ?_ ?_
    · by_cases c : k < ns.length
      · have g := List.getElem?_eq_getElem c
        refine ep_ifT (et_test (ev_is (ev_op (ev_var rfl) (ev_len (ev_var rfl) hS) rv_I0) (by rw [List.length_map, decide_eq_true (by omega)]))) (fun H1 e1 Q' q' => ?_)
        exact (ev_abs (i := ns[k]) (ev_ixL (ev_var rfl) (ev_var rfl) hS (atI_nat (by rw [List.getElem?_map, g]; rfl)))) H1 e1 _ fun H2 e2 => q' _ H2 e2 ⟨_, rfl, by split <;> omega⟩
      · refine ep_ifF (et_test (ev_is (ev_op (ev_var rfl) (ev_len (ev_var rfl) hS) rv_I0) (by rw [List.length_map, decide_eq_false (by omega)]))) (fun H1 e1 Q' q' => ?_)
        exact ev_c (v := .int 0) (σ := start NPot [.ref a, .int (k : Nat)]) H1 e1 _ fun H2 e2 => q' _ H2 e2 ⟨0, rfl, Int.le_refl 0⟩
    · rintro v H1 e1 ⟨c, rfl, hc⟩
      have m1 := fmod_in c (j := 2147483543) (by decide)
      have m2 := fmod_in ((c.fmod 2147483543 + 101 * (k : Int) + 7) ^ (2 : Int).toNat) (j := 2147483497) (by decide)
      refine s_retL (el_lst (vs := [.int (if c - 10 ^ (18 : Int).toNat > 0 then c - 10 ^ (18 : Int).toNat else 0), .int (((c.fmod 2147483543 + 101 * (k : Int) + 7) ^ (2 : Int).toNat).fmod 2147483497 + 1)])
        (ea_cons (ev_max2 ev_c (ev_op (ev_var rfl) (ev_op ev_c ev_c (rv_I ⟨by decide, by decide, by decide⟩)) rv_I0))
        (ea_cons (ev_op (ev_op (ev_int (ev_op (ev_op (ev_op (ev_op (ev_int (ev_var rfl)) ev_c (rv_I (show (2147483543 : Int) ≠ 0 by decide))) (ev_op ev_c (ev_var rfl) (rv_I (.inl ⟨by decide, by decide⟩))) rv_I0) ev_c rv_I0) ev_c (rv_I ⟨by decide, by decide, by omega⟩))) ev_c (rv_I (show (2147483497 : Int) ≠ 0 by decide))) ev_c rv_I0) ea_nil)) (by show 2 ≤ 100000; decide)) fun p H2 hp e2 h2 => q p H2 (fresh_back e1 hp) (e1.trans e2) ⟨_, _, h2, by split <;> omega, by omega, by omega⟩

theorem ok_Draw {f : Addr} {fd : FuncData} (F : Fun K "_law_draw" "_law_draw" sDraw f fd) (T : Txt K mg CN CS)  : FnOk P w K mg base CX0 1 f fd PDraw (spDraw) := by
  refine F.ok scDraw (fun vs H Q E h => ?_) (fun cdv A outer s H vs Q E hr h => ?_)
  · obtain ⟨p, m, rfl, ⟨a, b, hp, a0, b0, b1⟩, ⟨m0, m1⟩, q⟩ := h
    rfl
  · obtain ⟨p, m, rfl, ⟨a, b, hp, a0, b0, b1⟩, ⟨m0, m1⟩, q⟩ := h
    refine ⟨_, (pss_cons (ps_if (pt_cmpR op_gt (pe_ix ix_list (pv 0) pe_int (fun _ _ => rfl)) pe_int (nomark _)) (pss_cons (ps_asg (pe_callB call_divmod (by rfl) T.m_divmod (by decide +kernel) (pa_cons (pe_ix ix_list (pv 0) pe_int (fun _ _ => rfl)) (pa_cons (pv 1) pa_nil))) (pg_tup rfl (pgs_cons (pg_sub (pv 0) pe_int set_list) (pgs_cons (pg_name (i := 2) scDraw.nd rfl (.inl rfl)) pgs_nil))))
      (pss_one (ps_ret (pv 2)))) pss_nil)
      (pss_cons (ps_asg (pe_op op_modN (pe_callTy call_int1 (by rfl) T.m_int (by decide +kernel) (pa_cons (pe_op op_add (pe_op op_mul (pe_ix ix_list (pv 0) pe_int (fun _ _ => rfl)) pe_int) pe_int) pa_nil)) pe_int) (pg_sub (pv 0) pe_int set_list))
      (pss_one (ps_ret (pe_op op_modN (pe_callTy call_int1 (by rfl) T.m_int (by decide +kernel) (pa_cons (pe_op op_fdiv (pe_op op_modN (pe_callTy call_int1 (by rfl) T.m_int (by decide +kernel) (pa_cons (pe_op op_mul (pe_ix ix_list (pv 0) pe_int (fun _ _ => rfl)) (pe_ix ix_list (pv 0) pe_int (fun _ _ => rfl))) pa_nil)) pe_int) pe_int) pa_nil)) (pv 1)))))), ?_⟩
    have itm : ∀ {H' : Hp} {σ' : L2.St} {x y : V}, σ'[0]? = some (some (.ref p)) → H' p = some (.lst [x, y]) → Ev (tOp (rIxL K) (tVar 0) (tC (.int 0))) σ' H' x ∧ Ev (tOp (rIxL K) (tVar 0) (tC (.int 1))) σ' H' y := fun hs h => ⟨ev_ixL (ev_var hs) ev_c (sq_of h) rfl, ev_ixL (ev_var hs) ev_c (sq_of h) rfl⟩
    by_cases c : 0 < a
    · refine q_when (b := true) (et_test (ev_is (ev_op (itm rfl hp).1 ev_c rv_I0) (by rw [decide_eq_true c]))) (fun _ H1 e1 => ?_) (fun z => nomatch z)
      have hp1 := e1 _ _ hp
      refine q_asgEN (EvU.toN (ev_divmod (itm rfl hp1).1 (ev_var (v := .int m) rfl) ⟨m0, by omega⟩)) fun t H3 ht e3 ht3 => ?_
      have hp3 := e3 _ _ hp1
      have ntp : t ≠ p := (show PotAt H1 p from ⟨a, b, hp1, a0, b0, b1⟩).ne ht
      refine ⟨t, _, rfl, st_of ht3, rfl, .int (a / m), [.int (a % m)], rfl, .ref p, rfl, p, [.int a, .int b], 0, 0, rfl, rfl, hp3, rfl, .int (a % m), [], rfl, rfl, ?_⟩
      refine s_ret (v := .int (a % m)) (ev_var rfl) fun H4 e4 => q (a % m) H4 (Int.emod_nonneg _ (by omega)) (Int.emod_lt_of_pos _ m0) ?_ ⟨a / m, b, e4 _ _ (by rw [upd_same]; rfl), Int.ediv_nonneg a0 (by omega), b0, b1⟩
      exact (Pex.set (Pex.of (e1.trans e3))).trans (Pex.of e4)
    · refine q_when (b := false) (et_test (ev_is (ev_op (itm rfl hp).1 ev_c rv_I0) (by rw [decide_eq_false c]))) (fun z => nomatch z) fun _ H1 e1 => ?_
      have hp1 := e1 _ _ hp
      have f1 := fmod_in (b * 48271 + 10007) (j := 2147483587) (by decide)
      generalize hb' : (b * 48271 + 10007).fmod 2147483587 = b' at f1
      refine q_asgE (v := .int b') (ev_is (ev_op (ev_int (ev_op (ev_op (itm rfl hp1).2 ev_c (rv_I (.inl ⟨by omega, by omega⟩))) ev_c rv_I0)) ev_c (rv_I (show (2147483587 : Int) ≠ 0 by decide))) (by rw [← hb'])) fun H2 e2 => ?_
      have hp2 := e2 _ _ hp1
      refine ⟨.ref p, rfl, p, [.int a, .int b], 1, 1, rfl, rfl, hp2, rfl, ?_⟩
      have hp3 : (upd H2 p (.lst ([V.int a, V.int b].set 1 (.int b')))) p = some (.lst [.int a, .int b']) := upd_same
      have ex3 : Pex p H (upd H2 p (.lst ([V.int a, V.int b].set 1 (.int b')))) := Pex.set (Pex.of (e1.trans e2))
      generalize upd H2 p (.lst ([V.int a, V.int b].set 1 (.int b'))) = H3 at hp3 ex3 ⊢
      have f2 := fmod_in (b' * b') (j := 2147483549) (by decide)
      have f3 := fmod_in ((b' * b').fmod 2147483549 / 11) m0
      refine s_ret (v := .int (((b' * b').fmod 2147483549 / 11).fmod m)) (ev_op (ev_int (ev_op (ev_op (ev_int (ev_op (itm rfl hp3).2 (itm rfl hp3).2 (rv_I (.inl ⟨by omega, by omega⟩)))) ev_c (rv_I (show (2147483549 : Int) ≠ 0 by decide))) ev_c (rv_I ⟨by decide, by decide⟩))) (ev_var rfl) (rv_I (show m ≠ 0 by omega))) fun H4 e4 =>
        q _ H4 f3.1 f3.2 (ex3.trans (Pex.of e4)) ⟨a, b', e4 _ _ hp3, a0, f1.1, by omega⟩

theorem ok_Shuffled {f : Addr} {fd : FuncData} (F : Fun K "_law_shuffled" "_law_shuffled" sShuffled f fd) (T : Txt K mg CN CS) (dDraw : Df P w K mg base "_law_draw" PDraw 1 (spDraw)) : FnOk P w K mg base CX0 2 f fd PShuffled (spShuffled) := by
  refine F.ok scShuffled (fun vs H Q E h => ?_) (fun cdv A outer s H vs Q E hr h => ?_)
  · obtain ⟨p, t, xs, rfl, hp, ht, htp, hz, q⟩ := h
    rfl
  · obtain ⟨p, t, xs, rfl, hp, ht, htp, hz, q⟩ := h
    refine ⟨_, (pss_cons (ps_set (i := 2) scShuffled.nd rfl (.inr rfl) (pe_callTy call_list_of (by rfl) T.m_list (by decide +kernel) (pa_cons (pv 1) pa_nil)))
      (pss_one (ps_ret (pe_lc (te := tBM K "list" rPopAt (tVar 2) (tCons (tCall spDraw [] E0 (tCons (tVar 0) (tCons (tCB (rLenS K) (tCons (tVar 2) tNil)) tNil))) tNil)) (own := [("_law_k", 3)]) (g := gName 3) (tt := tYes) rfl scShuffled.nd (pi_range1 (by rfl) T.m_range (pa_cons (pe_callB call_len_seq (by rfl) T.m_len (by decide +kernel) (pa_cons (pv 1) pa_nil)) pa_nil)) (blkOk_by (own := [("_law_k", 3)]) (N := NShuffled) (sc := defScope sShuffled) (by decide +kernel)) (fun _ _ _ _ _ => (pg_name (i := 3) scShuffled.nd rfl (.inl rfl))) (fun _ _ _ _ _ => pts_nil) (fun _ _ _ _ _ => (pe_bm PySem.F.plainAttrs_list PySem.F.slot_list_pop PySem.F.type_list_pop mt_popAt (pv 2) (pa_cons (pe_call dDraw.G (hr.mono (by decide)) (by rfl) dDraw.g dDraw.kp dDraw.b .nil pass0 (pa_cons (pv 0) (pa_cons (pe_callB call_len_seq (by rfl) T.m_len (by decide +kernel) (pa_cons (pv 2) pa_nil)) pa_nil))) pa_nil))))))), ?_⟩
    refine q_asgL (el_list (ev_var rfl) (sq_of ht)) fun l H1 hl e1 h1 => ?_
    have hlp : l ≠ p := hp.ne hl
    refine s_retR (lc_rngI (n := xs.length) (ea_cons (ev_len (ev_var rfl) (sq_of (e1 _ _ ht))) ea_nil) (by omega) (fun _ => rfl) (fun L i H' => L ≠ l ∧ L ≠ p ∧ H L = none ∧ ∃ acc rem, H' L = some (.lst acc) ∧ H' l = some (.lst rem) ∧ (acc ++ rem).Perm xs ∧ acc.length = i ∧ Pex p H H' ∧ PotAt H' p) (fun L H2 e2 hL => ?_) (fun L i H' hi pv => ?_) (fun L H' pv => ?_))
    · have hL0 : H L = none := fresh_back (e1.trans e2) hL
      have hLl : L ≠ l := fun z => by rw [z, e2 _ _ h1] at hL; cases hL
      exact ⟨hLl, hp.ne hL0, hL0, [], xs, upd_same, by rw [upd_ne (Ne.symm hLl)]; exact e2 _ _ h1, List.Perm.refl _, rfl, Pex.of ((e1.trans e2).mut hL0), hp.ex ((e1.trans e2).mut hL0)⟩
    · obtain ⟨n1, n2, n3, acc, rem, h2, h3, h4, h5, h6, h7⟩ := pv
      have hlen := h4.length_eq
      rw [List.length_append] at hlen
      refine ⟨.ref l, rfl, .inl ⟨rfl, rem, sq_of h3⟩, ?_⟩
      refine draw_call (ev_var rfl) (ev_len (ev_var rfl) (sq_of h3)) h7 (by omega) (by omega) fun d H4 d0 d1 px pt => ?_
      have hy := List.getElem?_eq_getElem (l := rem) (i := d.toNat) (by omega)
      refine ⟨l, rem, d, d.toNat, rem[d.toNat], rfl, rfl, px _ _ hlp h3, by omega, by omega, ?_, hy, acc, ?_, sz_lt (by omega), n1, n2, n3, acc ++ [rem[d.toNat]], rem.eraseIdx d.toNat, upd_same, ?_, ?_, ?_, ?_, ?_⟩
      · have := (ixN_seq (ixN_nat (n := rem.length) (j := d.toNat) (by omega))).1
        rw [Int.toNat_of_nonneg d0] at this
        exact this
      · rw [upd_ne n1]; exact px _ _ n2 h2
      · rw [upd_ne (Ne.symm n1), upd_same]
      · rw [List.append_assoc]
        exact (List.Perm.append_left acc (erase_perm hy)).trans h4
      · rw [List.length_append, h5]; rfl
      · exact ((h6.trans px).mut hl).mut n3
      · obtain ⟨a, b, q1, q2⟩ := pt
        exact ⟨a, b, by rw [upd_ne (Ne.symm n2), upd_ne (Ne.symm hlp)]; exact q1, q2⟩
    · obtain ⟨n1, n2, n3, acc, rem, h2, h3, h4, h5, h6, h7⟩ := pv
      have hlen := h4.length_eq
      rw [List.length_append] at hlen
      have : rem = [] := List.eq_nil_of_length_eq_zero (by omega)
      subst this
      rw [List.append_nil] at h4
      exact q L H' acc n3 n2 h6 h7 h2 h4
end
end LKW

/-! Deep data: points, ints. The law's drawing: names, some. -/
namespace LKW
open PySem PySem.Spec PyProof.Rows L2 Evl

/-! ### data of any depth -/
def dPt (p : LK.Pt) : PyData := .tuple [.int p.1, .int (p.2 : Nat)]
theorem eqv_pt (p q : LK.Pt) : PyData.eqv (dPt p) (dPt q) = decide (p = q) := by
  obtain ⟨a, b⟩ := p
  obtain ⟨c, d⟩ := q
  unfold dPt
  simp only [PyData.eqv, PyData.eqvAll, Bool.and_true]
  by_cases h1 : a = c <;> by_cases h2 : b = d <;> simp [h1, h2] <;> omega
theorem eqv_pts : ∀ ps qs : List LK.Pt, PyData.eqv (.list (ps.map dPt)) (.list (qs.map dPt)) = decide (ps = qs)
  | [], [] => by simp [PyData.eqv, PyData.eqvAll]
  | [], _ :: _ => by simp [PyData.eqv, PyData.eqvAll]
  | _ :: _, [] => by simp [PyData.eqv, PyData.eqvAll]
  | p :: ps, q :: qs => by
    have ih := eqv_pts ps qs
    simp only [PyData.eqv] at ih
    simp only [List.map_cons, PyData.eqv, PyData.eqvAll, eqv_pt, ih]
    by_cases h1 : p = q <;> by_cases h2 : ps = qs <;> simp [h1, h2]
theorem any_pt (ps : List LK.Pt) (q : LK.Pt) : ((ps.map dPt).any fun z => PyData.eqv z (dPt q)) = decide (q ∈ ps) := by
  induction ps with
  | nil => simp
  | cons p ps ih =>
    simp only [List.map_cons, List.any_cons, eqv_pt, ih]
    by_cases h1 : p = q
    · simp [h1]
    · have : ¬ q = p := fun z => h1 z.symm
      simp [h1, this]
theorem lay_pts : ∀ ps : List LK.Pt, PyData.canLayAll0 (ps.map dPt) = true
  | [] => rfl
  | _ :: r => by simp [PyData.canLayAll0, PyData.canLay0, dPt, lay_pts r]
theorem dep_pts : ∀ ps : List LK.Pt, PyData.depthAll (ps.map dPt) ≤ 1
  | [] => by simp [PyData.depthAll]
  | _ :: r => by
    have := dep_pts r
    simp [PyData.depthAll, PyData.depth, dPt]
    omega
theorem shp_pt (p : LK.Pt) : SeqAt.shaped (dPt p) = true := by simp [SeqAt.shaped, PyData.canLay0, PyData.canLayAll0, PyData.depth, PyData.depthAll, dPt]
theorem shp_pts (ps : List LK.Pt) : SeqAt.shaped (.list (ps.map dPt)) = true := by
  have h := dep_pts ps
  simp only [SeqAt.shaped, PyData.canLay0, PyData.depth, lay_pts, Bool.true_and]
  exact decide_eq_true (show PyData.depthAll (ps.map dPt) + 1 ≤ 64 by omega)
section
variable {K : PySem.W.Frag} {H : Hp}
theorem dp_pt {a : Addr} {p : LK.Pt} (h : IsPt H a p) : Dp K H (.ref a) (dPt p) := .tup (st_of h) (.cons (.int _) (.cons (.int _) .nil))
theorem dp_all : ∀ {as : List Addr} {ps : List LK.Pt}, PtsBy H as ps → DpAll K H (as.map V.ref) (ps.map dPt)
  | [], [], _ => .nil
  | [], _ :: _, h => absurd h.1 (by simp)
  | _ :: _, [], h => absurd h.1 (by simp)
  | a :: as, p :: ps, h => .cons (dp_pt (h.2 0 a p rfl rfl)) (dp_all ⟨by simpa using h.1, fun i b q h1 h2 => h.2 (i + 1) b q (by simpa using h1) (by simpa using h2)⟩)
theorem dp_pts {a : Addr} {ps : List LK.Pt} (h : PtsAt H a ps) : Dp K H (.ref a) (.list (ps.map dPt)) := let ⟨as, h1, h2⟩ := h; .lst (sq_of h1) (dp_all h2)
theorem dp_ints : ∀ ns : List Int, DpAll K H (ns.map V.int) (ns.map PyData.int)
  | [] => .nil
  | n :: ns => .cons (.int n) (dp_ints ns)
theorem lay_ints : ∀ ns : List Int, PyData.canLayAll0 (ns.map PyData.int) = true
  | [] => rfl
  | _ :: r => by simp [PyData.canLayAll0, PyData.canLay0, lay_ints r]
theorem dep_ints : ∀ ns : List Int, PyData.depthAll (ns.map PyData.int) = 0
  | [] => rfl
  | _ :: r => by simp [PyData.depthAll, PyData.depth, dep_ints r]
theorem shp_ints (ns : List Int) : SeqAt.shaped (.list (ns.map PyData.int)) = true := by simp [SeqAt.shaped, PyData.canLay0, PyData.depth, lay_ints, dep_ints]
variable {σ : L2.St} {ta tb : TE}
/-- l != [] of ints -/
theorem ev_neE {a : Addr} {ns : List Int} (h : Ev ta σ H (.ref a)) (hl : H a = some (.lst (ns.map V.int))) : Ev (tOp (rNeD K) ta (tLst tNil)) σ H (.bl (!ns.isEmpty)) := fun H1 e Q q =>
  h H1 e _ fun H2 e2 => (el_lst (vs := []) ea_nil (Nat.zero_le _)) H2 (e.trans e2) _ fun p H3 _ e3 hp => ⟨.list (ns.map PyData.int), .list [], .lst (sq_of ((e.trans e2).trans e3 |> fun z => z _ _ hl)) (dp_ints ns), .lst (sq_of hp) .nil, shp_ints ns, shp_ints [], by
    have : (!PyData.eqv (.list (ns.map PyData.int)) (.list [])) = !ns.isEmpty := by cases ns <;> rfl
    rw [this]
    exact q H3 (e2.trans e3)⟩
/-- [..] != [] where the left list holds nothing, or anything -/
theorem ev_neN {xs : List V} {ds : List PyData} (h : EvL ta σ H xs) (hd : ∀ H1, Ex H H1 → DpAll K H1 xs ds) (hs : SeqAt.shaped (.list ds) = true) : Ev (tOp (rNeD K) ta (tLst tNil)) σ H (.bl (!ds.isEmpty)) := fun H1 e Q q =>
  h H1 e _ fun l H2 _ e2 h2 => (el_lst (vs := []) ea_nil (Nat.zero_le _)) H2 (e.trans e2) _ fun p H3 _ e3 hp => ⟨.list ds, .list [], .lst (sq_of (e3 _ _ h2)) (hd H3 ((e.trans e2).trans e3)), .lst (sq_of hp) .nil, hs, shp_ints [], by
    have : (!PyData.eqv (.list ds) (.list [])) = !ds.isEmpty := by cases ds <;> rfl
    rw [this]
    exact q H3 (e2.trans e3)⟩
theorem ev_intB {b : Bool} (ha : Ev ta σ H (.bl b)) : Ev (tCB (fun xs H Q => (∃ i, xs = [.int i] ∧ Q (.int i) H) ∨ ∃ k, xs = [.bl k] ∧ Q (.int (if k then 1 else 0)) H) (tCons ta tNil)) σ H (.int (if b then 1 else 0)) := fun H1 e Q q =>
  ha H1 e _ fun H2 e2 => .inr ⟨b, rfl, q H2 e2⟩
theorem el_rg {n : Int} (ha : Ev ta σ H (.int n)) (h0 : 0 ≤ n ∧ n ≤ 100000) : EvL (tLstRg (tRg1 ta)) σ H (rgV 0 n) := fun H1 e Q q =>
  ha H1 e _ fun H2 e2 => ⟨n, rfl, RgOk.of_le (Int.le_refl 0) (by omega) (by omega) h0.1, fun p hp => q p _ (fresh_back e2 hp) (e2.trans (Ex.new hp)) upd_same⟩
end

/-! ### what the pot at p gives -/
def EvD (p : Addr) (te : TE) (σ : L2.St) (H : Hp) (PV : V → Hp → Prop) : Prop := ∀ Q : VK, (∀ v H', Pex p H H' → PotAt H' p → PV v H' → Q v H') → te σ H Q
section
variable {K : PySem.W.Frag} {σ : L2.St} {H : Hp} {p : Addr} {ta tb te tv tm tt : TE} {g : TG} {tz tu : TS} {D : Ends} {PV : V → Hp → Prop} {A B : V → Prop} {t : TT}
theorem ed_of {v : V} (h : Ev te σ H v) (hp : PotAt H p) : EvD p te σ H (fun x _ => x = v) := fun Q q => h H (Ex.refl H) _ fun H1 e => q v H1 (Pex.of e) (hp.ex e) rfl
theorem ed_draw {m : Int} {E : XK} (hv : Ev tv σ H (.ref p)) (hm : Ev tm σ H (.int m)) (hp : PotAt H p) (h0 : 0 < m) (h1 : m ≤ 100000) : EvD p (tCall spDraw [] E (tCons tv (tCons tm tNil))) σ H (fun x _ => ∃ d : Int, x = .int d ∧ 0 ≤ d ∧ d < m) := fun Q q =>
  draw_call hv hm hp h0 h1 fun d H' d0 d1 px pt => q _ H' px pt ⟨d, rfl, d0, d1⟩
/-- one of a list's items -/
theorem ed_pick {xs : List V} {E : XK} (hl : EvL te σ H xs) (hv : Ev tv σ H (.ref p)) (hm : Ev tm σ H (.int (xs.length : Nat))) (hp : PotAt H p) (h0 : 0 < xs.length) (h1 : xs.length ≤ 100000) :
    EvD p (tOp (rIxL K) te (tCall spDraw [] E (tCons tv (tCons tm tNil)))) σ H (fun x _ => x ∈ xs) := fun Q q =>
  hl H (Ex.refl H) _ fun l H1 hl0 e1 h1' => draw_call (hv.mono e1) (hm.mono e1) (hp.ex e1) (by omega) (by omega) fun d H2 d0 d1 px pt => by
    have hy := List.getElem?_eq_getElem (l := xs) (i := d.toNat) (by omega)
    refine ⟨l, xs, d, xs[d.toNat], rfl, rfl, sq_of (px l _ (hp.ne hl0) h1'), ?_, q _ H2 ((Pex.of e1).trans px) pt (List.getElem_mem _)⟩
    have := atI_nat hy
    rw [Int.toNat_of_nonneg d0] at this
    exact this
theorem ed_pickV {a : Addr} {xs : List V} {E : XK} (hl : Ev te σ H (.ref a)) (hx : H a = some (.lst xs)) (ha : a ≠ p) (hv : Ev tv σ H (.ref p)) (hm : Ev tm σ H (.int (xs.length : Nat))) (hp : PotAt H p) (h0 : 0 < xs.length) (h1 : xs.length ≤ 100000) :
    EvD p (tOp (rIxL K) te (tCall spDraw [] E (tCons tv (tCons tm tNil)))) σ H (fun x _ => x ∈ xs) := fun Q q =>
  hl H (Ex.refl H) _ fun H1 e1 => draw_call (hv.mono e1) (hm.mono e1) (hp.ex e1) (by omega) (by omega) fun d H2 d0 d1 px pt => by
    have hy := List.getElem?_eq_getElem (l := xs) (i := d.toNat) (by omega)
    refine ⟨a, xs, d, xs[d.toNat], rfl, rfl, sq_of (px a _ ha (e1 _ _ hx)), ?_, q _ H2 ((Pex.of e1).trans px) pt (List.getElem_mem _)⟩
    have := atI_nat hy
    rw [Int.toNat_of_nonneg d0] at this
    exact this
theorem shuf_call {a : Addr} {xs : List V} {E : XK} {Q : VK} (hv : Ev tv σ H (.ref p)) (hl : Ev te σ H (.ref a)) (hx : H a = some (.lst xs)) (ha : a ≠ p) (hp : PotAt H p) (hz : xs.length ≤ 10000)
    (k : ∀ l H' ys, H l = none → l ≠ p → Pex p H H' → PotAt H' p → H' l = some (.lst ys) → ys.Perm xs → Q (.ref l) H') : tCall spShuffled [] E (tCons tv (tCons te tNil)) σ H Q :=
  (ea_cons hv (ea_cons hl ea_nil)) H (Ex.refl H) _ fun H1 e1 => ⟨p, a, xs, rfl, hp.ex e1, e1 _ _ hx, ha, hz, fun l H' ys h1 h2 h3 => k l H' ys (fresh_back e1 h1) h2 ((Pex.of e1).trans h3)⟩
theorem shuf_callL {xs : List V} {E : XK} {Q : VK} (hv : Ev tv σ H (.ref p)) (hl : EvL te σ H xs) (hp : PotAt H p) (hz : xs.length ≤ 10000)
    (k : ∀ l H' ys, H l = none → l ≠ p → Pex p H H' → PotAt H' p → H' l = some (.lst ys) → ys.Perm xs → Q (.ref l) H') : tCall spShuffled [] E (tCons tv (tCons te tNil)) σ H Q :=
  hv H (Ex.refl H) _ fun H0 e0 => hl H0 e0 _ fun a H1 ha e1 hx => ⟨p, a, xs, rfl, hp.ex (e0.trans e1), hx, hp.ne (fresh_back e0 ha), hz, fun l H' ys h1 h2 h3 => k l H' ys (fresh_back (e0.trans e1) h1) h2 ((Pex.of (e0.trans e1)).trans h3)⟩
theorem ed_tup2 (h1 : EvD p ta σ H (fun x _ => A x)) (h2 : ∀ H1, Pex p H H1 → PotAt H1 p → EvD p tb σ H1 (fun x _ => B x)) : EvD p (tTup (tCons ta (tCons tb tNil))) σ H (fun v H' => ∃ t x y, v = .ref t ∧ H' t = some (.tup [x, y]) ∧ A x ∧ B y ∧ H t = none) := fun Q q =>
  h1 _ fun x H1 px1 pt1 a => h2 H1 px1 pt1 _ fun y H2 px2 pt2 b => ⟨sz_of (show 2 ≤ 100000 by decide), fun t ht => by
    have nt := pt2.ne ht
    have h0 := (px1.trans px2).none nt ht
    exact q _ _ ((px1.trans px2).mut h0) (pt2.ex (Ex.new ht)) ⟨t, x, y, rfl, upd_same, a, b, h0⟩⟩
theorem tcb1 {r : List V → Hp → VK → Prop} {Q : VK} (h : te σ H fun v H1 => r [v] H1 Q) : tCB r (tCons te tNil) σ H Q := h
theorem q_asgD (h : EvD p te σ H PV) (k : ∀ v H1, Pex p H H1 → PotAt H1 p → PV v H1 → g v σ H1 (tz D)) : tSeq (tAsg te g) tz D σ H := h _ fun v H1 px pt hv => k v H1 px pt hv
theorem q_asgDn {i : Nat} (h : EvD p te σ H PV) (k : ∀ v H1, Pex p H H1 → PotAt H1 p → PV v H1 → tz D (σ.set i (some v)) H1) : tSeq (tAsg te (gName i)) tz D σ H := h _ fun v H1 px pt hv => k v H1 px pt hv
theorem s_retD (h : EvD p te σ H PV) (k : ∀ v H1, Pex p H H1 → PotAt H1 p → PV v H1 → D.rt v H1) : tRet te D σ H := h _ fun v H1 px pt hv => k v H1 px pt hv
end
def spNames : Sp := fun vs H Q _ => ∃ (p : Addr) (m : Nat), vs = [.ref p, .int (m : Nat)] ∧ PotAt H p ∧ m ≤ 1000 ∧ ∀ l H' (ns : List Int), H l = none → l ≠ p → Pex p H H' → PotAt H' p → H' l = some (.lst (ns.map V.int)) → ns.length = m → ns.Nodup → (∀ n ∈ ns, 0 ≤ n) → Q (.ref l) H'
def spSome : Sp := fun vs H Q _ => ∃ (p t : Addr) (ns : List Int) (most : Nat), vs = [.ref p, .ref t, .int (most : Nat)] ∧ PotAt H p ∧ t ≠ p ∧ H t = some (.lst (ns.map V.int)) ∧ ns.length ≤ 1000 ∧ most ≤ 1000 ∧
  ∀ u H' (os : List Int), H u = none → u ≠ p → Pex p H H' → PotAt H' p → TupI H' u os → os.length ≤ most → (∀ o ∈ os, o ∈ ns) → Q (.ref u) H'

def unI : V → Int
  | .int i => i
  | _ => 0
theorem rg_mem {m : Nat} {x : V} (h : x ∈ rgV 0 (m : Int)) : ∃ j : Nat, x = .int (j : Nat) ∧ j < m := by
  unfold rgV at h
  obtain ⟨j, hj, rfl⟩ := List.mem_map.mp h
  have := List.mem_range.mp hj
  exact ⟨j, by rw [Int.zero_add], by omega⟩
theorem rg_nodup (m : Nat) (a b : Int) (ha : 0 < a) : ((rgV 0 (m : Int)).map fun x => unI x * a + b).Nodup := by
  unfold rgV
  rw [List.map_map]
  refine List.Pairwise.map _ (fun i j hij z => ?_) (List.nodup_range (n := ((m : Int) - 0).toNat))
  simp only [Function.comp, unI] at z
  have h1 : ((0 : Int) + (i : Nat)) * a = (0 + (j : Nat)) * a := by omega
  have h2 := Int.eq_of_mul_eq_mul_right (by omega) h1
  omega
section
variable {P : Program} {w : World} {K : PySem.W.Frag} {mg : Str → Option Value} {base : Heap} {CN CS : Addr}

theorem ok_Names {f : Addr} {fd : FuncData} (F : Fun K "_law_names" "_law_names" sNames f fd) (T : Txt K mg CN CS) (dDraw : Df P w K mg base "_law_draw" PDraw 1 (spDraw)) (dShuffled : Df P w K mg base "_law_shuffled" PShuffled 2 (spShuffled)) : FnOk P w K mg base CX0 3 f fd PNames (spNames) := by
  refine F.ok scNames (fun vs H Q E h => ?_) (fun cdv A outer s H vs Q E hr h => ?_)
  · obtain ⟨p, m, rfl, hp, hm, q⟩ := h
    rfl
  · obtain ⟨p, m, rfl, hp, hm, q⟩ := h
    refine ⟨_, (pss_cons (ps_asg (pe_tup (pa_cons (pe_ix ix_list (pe_lst (pa_cons pe_int (pa_cons pe_int (pa_cons pe_int (pa_cons (pe_op op_pow pe_int pe_int) pa_nil))))) (pe_call dDraw.G (hr.mono (by decide)) (by rfl) dDraw.g dDraw.kp dDraw.b .nil pass0 (pa_cons (pv 0) (pa_cons pe_int pa_nil))) (fun _ _ => rfl)) (pa_cons (pe_ix ix_list (pe_lst (pa_cons pe_int (pa_cons pe_int (pa_cons pe_int pa_nil)))) (pe_call dDraw.G (hr.mono (by decide)) (by rfl) dDraw.g dDraw.kp dDraw.b .nil pass0 (pa_cons (pv 0) (pa_cons pe_int pa_nil))) (fun _ _ => rfl)) pa_nil))) (pg_tup rfl (pgs_cons (pg_name (i := 2) scNames.nd rfl (.inr rfl)) (pgs_cons (pg_name (i := 3) scNames.nd rfl (.inr rfl)) pgs_nil))))
      (pss_one (ps_ret (pe_lc (own := [("_law_number", 4)]) (g := gName 4) (tt := tYes) rfl scNames.nd (pi_list (pe_call dShuffled.G (hr.mono (by decide)) (by rfl) dShuffled.g dShuffled.kp dShuffled.b .nil pass0 (pa_cons (pv 0) (pa_cons (pe_listRg rfl (by rfl) T.m_list (prg_1 (by rfl) T.m_range (pv 1))) pa_nil)))) (blkOk_by (own := [("_law_number", 4)]) (N := NNames) (sc := defScope sNames) (by decide +kernel)) (fun _ _ _ _ _ => (pg_name (i := 4) scNames.nd rfl (.inl rfl))) (fun _ _ _ _ _ => pts_nil) (fun _ _ _ _ _ => (pe_op op_add (pe_op op_mul (pv 4) (pv 2)) (pv 3))))))), ?_⟩
    refine q_asgD (ed_tup2 (A := fun x => ∃ a : Int, x = .int a ∧ 0 < a ∧ a ≤ 10 ^ 25) (B := fun x => ∃ a : Int, x = .int a ∧ 0 ≤ a)
      (fun Q' q' => ed_pick (xs := [.int 1, .int 1, .int 3, .int (10 ^ (25 : Int).toNat)]) (el_lst (ea_cons ev_c (ea_cons ev_c (ea_cons ev_c (ea_cons (ev_op ev_c ev_c (rv_I ⟨by decide, by decide, by decide⟩)) ea_nil)))) (by decide)) (ev_var rfl) ev_c hp (by decide) (by decide) Q' fun v H' a b c => q' v H' a b (by
        rcases List.mem_cons.mp c with rfl | c
        · exact ⟨_, rfl, by decide, by decide⟩
        rcases List.mem_cons.mp c with rfl | c
        · exact ⟨_, rfl, by decide, by decide⟩
        rcases List.mem_cons.mp c with rfl | c
        · exact ⟨_, rfl, by decide, by decide⟩
        rcases List.mem_cons.mp c with rfl | c
        · exact ⟨_, rfl, by decide, by decide⟩
        cases c))
      (fun H1 px pt Q' q' => ed_pick (xs := [.int 0, .int 0, .int 5]) (el_lst (ea_cons ev_c (ea_cons ev_c (ea_cons ev_c ea_nil))) (by decide)) (ev_var rfl) ev_c pt (by decide) (by decide) Q' fun v H' a b c => q' v H' a b (by
        rcases List.mem_cons.mp c with rfl | c
        · exact ⟨_, rfl, by decide⟩
        rcases List.mem_cons.mp c with rfl | c
        · exact ⟨_, rfl, by decide⟩
        rcases List.mem_cons.mp c with rfl | c
        · exact ⟨_, rfl, by decide⟩
        cases c))) ?_
    rintro v H1 px1 pt1 ⟨t, x, y, rfl, ht, ⟨a, rfl, ha, ha2⟩, ⟨b, rfl, hb⟩, _⟩
    refine g_two ht ?_
    refine s_retR (lc_lstI (fun xs a' L i H' => L ≠ a' ∧ L ≠ p ∧ H L = none ∧ xs.Perm (rgV 0 (m : Int)) ∧ H' a' = some (.lst xs) ∧ H' L = some (.lst ((xs.take i).map fun x => V.int (unI x * a + b))) ∧ Pex p H H' ∧ PotAt H' p)
      ?_ (fun _ => rfl) (fun xs a' L i H' h => h.2.2.2.2.1) ?_ ?_)
    · intro R k
      refine shuf_callL (ev_var rfl) (el_rg (ev_var (v := .int (m : Nat)) rfl) ⟨by omega, by omega⟩) pt1 (by rw [rgV_length]; omega) fun l H2 ys hl nl px2 pt2 h2 pm => k l ys H2 h2 fun L hL => ?_
      have nL := pt2.ne hL
      have hLH : H L = none := (px1.trans px2).none nL hL
      have nLl : L ≠ l := fun z => by rw [z, h2] at hL; cases hL
      exact ⟨nLl, nL, hLH, pm, by rw [upd_ne (Ne.symm nLl)]; exact h2, by rw [upd_same]; rfl, (px1.trans px2).mut hLH, pt2.ex (Ex.new hL)⟩
    · rintro xs a' L i x H2 hx ⟨n1, n2, n3, pm, h2, h3, px, pt⟩
      have lx : xs.length = m := by rw [pm.length_eq, rgV_length]; omega
      obtain ⟨j, rfl, hj⟩ := rg_mem (pm.mem_iff.mp (List.mem_of_getElem? hx))
      refine (ev_op (z := .int ((j : Int) * a + b)) (ev_op (z := .int ((j : Int) * a)) (ev_var (v := .int (j : Nat)) rfl) (ev_var (v := .int a) rfl) (rv_I (.inl ⟨by omega, by omega⟩))) (ev_var (v := .int b) rfl) rv_I0) H2 (Ex.refl H2) _ fun H3 e3 => ?_
      refine ⟨_, e3 _ _ h3, sz_lt (by rw [List.length_map, List.length_take]; omega), n1, n2, n3, pm, by rw [upd_ne (Ne.symm n1)]; exact e3 _ _ h2, ?_, (px.trans (Pex.of e3)).mut n3, ?_⟩
      · rw [upd_same, List.take_add_one, hx]
        simp [unI]
      · obtain ⟨q1, q2, q3, q4⟩ := pt.ex e3
        exact ⟨q1, q2, by rw [upd_ne (Ne.symm n2)]; exact q3, q4⟩
    · rintro xs a' L H2 ⟨n1, n2, n3, pm, h2, h3, px, pt⟩
      rw [List.take_length] at h3
      refine q L H2 (xs.map fun x => unI x * a + b) n3 n2 px pt (by rw [h3, List.map_map]; rfl) (by rw [List.length_map, pm.length_eq, rgV_length]; omega) ((List.Perm.nodup_iff (pm.map _)).mpr (rg_nodup m a b ha)) ?_
      intro n hn
      obtain ⟨x, hx, rfl⟩ := List.mem_map.mp hn
      obtain ⟨j, rfl, hj⟩ := rg_mem (pm.mem_iff.mp hx)
      have : 0 ≤ (j : Int) * a := Int.mul_nonneg (by omega) (by omega)
      show 0 ≤ (j : Int) * a + b
      omega

theorem ok_Some {f : Addr} {fd : FuncData} (F : Fun K "_law_some" "_law_some" sSome f fd) (T : Txt K mg CN CS) (dDraw : Df P w K mg base "_law_draw" PDraw 1 (spDraw)) : FnOk P w K mg base CX0 2 f fd PSome (spSome) := by
  refine F.ok scSome (fun vs H Q E h => ?_) (fun cdv A outer s H vs Q E hr h => ?_)
  · obtain ⟨p, t, ns, most, rfl, hp, htp, ht, hn, hm, q⟩ := h
    rfl
  · obtain ⟨p, t, ns, most, rfl, hp, htp, ht, hn, hm, q⟩ := h
    refine ⟨_, (pss_cons (ps_set (i := 3) scSome.nd rfl (.inl rfl) (pe_call dDraw.G (hr.mono (by decide)) (by rfl) dDraw.g dDraw.kp dDraw.b .nil pass0 (pa_cons (pv 0) (pa_cons (pe_op op_add (pv 2) pe_int) pa_nil))))
      (pss_one (ps_ret (pe_callTy call_tuple_of (by rfl) T.m_tuple (by decide +kernel) (pa_cons (pe_lc (te := tOp (rIxL K) (tVar 1) (tCall spDraw [] E0 (tCons (tVar 0) (tCons (tCB (rLenS K) (tCons (tVar 1) tNil)) tNil)))) (own := [("_law_k", 4)]) (g := gName 4) (tt := tYes) rfl scSome.nd (pi_range1 (by rfl) T.m_range (pa_cons (pe_op op_mul (pv 3) (pe_callTy call_int1 (by rfl) T.m_int (by decide +kernel) (pa_cons (pe_cmpR (op_neD hr.units) (pv 1) (pe_lst pa_nil) (nomark _)) pa_nil))) pa_nil)) (blkOk_by (own := [("_law_k", 4)]) (N := NSome) (sc := defScope sSome) (by decide +kernel)) (fun _ _ _ _ _ => (pg_name (i := 4) scSome.nd rfl (.inl rfl))) (fun _ _ _ _ _ => pts_nil) (fun _ _ _ _ _ => (pe_ix ix_list (pv 1) (pe_call dDraw.G (hr.mono (by decide)) (by rfl) dDraw.g dDraw.kp dDraw.b .nil pass0 (pa_cons (pv 0) (pa_cons (pe_callB call_len_seq (by rfl) T.m_len (by decide +kernel) (pa_cons (pv 1) pa_nil)) pa_nil))) (fun _ _ => rfl)))) pa_nil))))), ?_⟩
    refine q_asgDn (ed_draw (m := (most : Int) + 1) (ev_var rfl) (ev_op (ev_var rfl) ev_c rv_I0) hp (by omega) (by omega)) ?_
    rintro v H1 px1 pt1 ⟨d, rfl, d0, d1⟩
    have ht1 := px1 _ _ htp ht
    obtain ⟨n, hn1, hn2, hn3⟩ : ∃ n : Nat, d * (if (!ns.isEmpty) then 1 else 0) = (n : Int) ∧ n ≤ most ∧ (0 < n → 0 < ns.length) := by
      cases ns with
      | nil => exact ⟨0, by simp, by omega, by omega⟩
      | cons a r => exact ⟨d.toNat, by simp; omega, by omega, fun _ => by simp⟩
    refine s_retR (tcb1 ?_)
    refine lc_rngI (n := n) (ea_cons (ev_is (v := .int (d * (if (!ns.isEmpty) then 1 else 0))) (ev_op (ev_var (v := .int d) rfl) (ev_intB (ev_neE (ev_var rfl) ht1)) (rv_I (.inl ⟨by omega, by omega⟩))) (by rw [hn1])) ea_nil) (by omega) (fun _ => rfl) (fun L i H' => L ≠ p ∧ H L = none ∧ (∃ os : List Int, H' L = some (.lst (os.map V.int)) ∧ os.length = i ∧ ∀ o ∈ os, o ∈ ns) ∧ Pex p H H' ∧ PotAt H' p) (fun L H2 e2 hL => ?_) (fun L i H2 hi pv => ?_) (fun L H2 pv => ?_)
    · have nL := (pt1.ex e2).ne hL
      have hL0 := (px1.trans (Pex.of e2)).none nL hL
      exact ⟨nL, hL0, ⟨[], upd_same, rfl, fun o ho => absurd ho (by simp)⟩, (px1.trans (Pex.of e2)).mut hL0, (pt1.ex e2).ex (Ex.new hL)⟩
    · obtain ⟨nL, hL0, ⟨os, h2, lo, ho⟩, px, pt⟩ := pv
      have ht2 := px _ _ htp ht
      have nLt : L ≠ t := fun z => by rw [z, ht] at hL0; cases hL0
      refine ed_pickV (p := p) (a := t) (xs := ns.map V.int) (ev_var rfl) ht2 htp (ev_var rfl) (ev_len (ev_var rfl) (sq_of ht2)) pt (by rw [List.length_map]; exact hn3 (by omega)) (by rw [List.length_map]; omega) _ fun y H3 px3 pt3 hy => ?_
      obtain ⟨o, hon, rfl⟩ := List.mem_map.mp hy
      refine ⟨_, px3 _ _ nL h2, sz_lt (by rw [List.length_map]; omega), nL, hL0, ⟨os ++ [o], by rw [upd_same, List.map_append]; rfl, by rw [List.length_append, lo]; rfl, fun z hz => ?_⟩, (px.trans px3).mut hL0, ?_⟩
      · rcases List.mem_append.mp hz with hz | hz
        · exact ho z hz
        · rcases List.mem_singleton.mp hz with rfl
          exact hon
      · obtain ⟨q1, q2, q3, q4⟩ := pt3
        exact ⟨q1, q2, by rw [upd_ne (Ne.symm nL)]; exact q3, q4⟩
    · obtain ⟨nL, hL0, ⟨os, h2, lo, ho⟩, px, pt⟩ := pv
      refine ⟨L, _, rfl, .inl ⟨sq_of h2, fun u hu => ?_⟩⟩
      have nu := pt.ne hu
      exact q u _ os (px.none nu hu) nu (px.mut (px.none nu hu)) (pt.ex (Ex.new hu)) upd_same (by omega) ho
end
end LKW

/-! The law's drawing: rows. -/
namespace LKW
open PySem PySem.Spec PyProof.Rows L2 Evl

/-! ### plain: rows word for word -/
abbrev cw (w : Str) (ws : List V) : Nat := ws.countP fun x => decide (x = V.str w)
structure Made (ns : List Int) (ws : List V) (rows : List LK.Row) : Prop where
  valid : LK.Valid rows
  ord : LK.order rows = ns.take (cw "value" ws)
  st : (LK.stops rows).length = cw "stop" ws
  len : rows.length = ws.length
  nl : ∀ r ∈ rows, r.needs.length ≤ 3
  fit : ∀ r ∈ rows, RowFits r
theorem Made.nil {ns : List Int} : Made ns [] [] := ⟨LK.Valid.nil, rfl, rfl, rfl, fun r h => by simp at h, fun r h => by simp at h⟩
def RowIn (known : List Int) (o : Option Int) (k : Bool) (r : LK.Row) : Prop := LK.RowOk known r ∧ r.val = o ∧ r.ask.isSome = k ∧ r.needs.length ≤ 3 ∧ RowFits r
theorem Made.snoc {ns : List Int} {ws : List V} {rows : List LK.Row} {r : LK.Row} {o : Option Int} {w : Str} {k : Bool} (h : Made ns ws rows) (hr : RowIn (LK.order rows) o k r) (hk : k = decide (V.str w = V.str "stop"))
    (ho : ns.take (cw "value" ws) ++ o.toList = ns.take (cw "value" (ws ++ [.str w]))) : Made ns (ws ++ [.str w]) (rows ++ [r]) := by
  obtain ⟨r1, r2, r3, r4, r5⟩ := hr
  refine ⟨h.valid.snoc r1, ?_, ?_, by rw [List.length_append, List.length_append, h.len]; rfl, ?_, ?_⟩
  · rw [LK.order_snoc, r2, h.ord, ho]
  · rw [LK.stops_snoc, List.length_append, h.st, r3, hk]
    unfold cw
    rw [List.countP_append]
    by_cases q : V.str w = V.str "stop" <;> simp [q, List.countP_cons]
  · intro r' hr'
    rcases List.mem_append.mp hr' with q | q
    · exact h.nl r' q
    · rw [List.mem_singleton.mp q]; exact r4
  · intro r' hr'
    rcases List.mem_append.mp hr' with q | q
    · exact h.fit r' q
    · rw [List.mem_singleton.mp q]; exact r5
theorem cw_snoc {w u : Str} {ws : List V} : cw u (ws ++ [.str w]) = cw u ws + (if V.str w = V.str u then 1 else 0) := by
  unfold cw
  rw [List.countP_append]
  by_cases q : V.str w = V.str u <;> simp [q, List.countP_cons]
theorem Made.good {ns : List Int} {ws : List V} {rows : List LK.Row} {out : List Int} {m s u Vn Sn : Nat} (h : Made ns ws rows) (hm : cw "value" ws = m) (hs : cw "stop" ws = s) (hl : ws.length = m + s + u) (m1 : m ≤ Vn) (s1 : s ≤ Sn) (v5 : Vn ≤ 5) (s4 : Sn ≤ 4) (u2 : u ≤ 2) (vs : Vn * Sn ≤ 12)
    (hn : ns.length = m) (ho : ∀ v ∈ out, v ∈ LK.order rows) (lo : out.length ≤ 3) : Good rows out := by
  refine ⟨h.valid, ho, by rw [h.len, hl]; omega, h.nl, lo, ?_⟩
  rw [h.st, h.ord, hm, hs, List.length_take, hn, Nat.min_self]
  exact Nat.le_trans (Nat.mul_le_mul s1 m1) (by rw [Nat.mul_comm]; exact vs)

/-! ### tuples stay -/
def TK (H H' : Hp) : Prop := ∀ a xs, H a = some (.tup xs) → H' a = some (.tup xs)
theorem TK.refl {H : Hp} : TK H H := fun _ _ h => h
theorem TK.trans {H H1 H2 : Hp} (a : TK H H1) (b : TK H1 H2) : TK H H2 := fun x o h => b x o (a x o h)
theorem TK.ex {H H' : Hp} (e : Ex H H') : TK H H' := fun a xs h => e a _ h
theorem TK.pex {p : Addr} {H H' : Hp} (hp : PotAt H p) (e : Pex p H H') : TK H H' := fun a xs h => e a _ (fun z => by
  obtain ⟨x, y, q, _⟩ := hp
  rw [← z, h] at q
  cases q) h
theorem TK.mut {H : Hp} {l : Addr} {xs : List V} {o : HO} (h : H l = some (.lst xs)) : TK H (upd H l o) := fun a ys ha => by
  rw [upd_ne (ne_of ha h (by intro z; cases z))]
  exact ha
theorem IsRow.tk {H H' : Hp} {a : Addr} {r : LK.Row} (h : IsRow H a r) (e : TK H H') : IsRow H' a r := by
  cases r with
  | leaf v => exact e a _ h
  | set v l => obtain ⟨t, h1, h2⟩ := h; exact ⟨t, e a _ h1, e _ _ h2⟩
  | use l => obtain ⟨t, h1, h2⟩ := h; exact ⟨t, e a _ h1, e _ _ h2⟩
  | stop l => obtain ⟨z, t, h1, h2⟩ := h; exact ⟨z, t, e a _ h1, e _ _ h2⟩
theorem RowsBy.tk {H H' : Hp} {as : List Addr} {rows : List LK.Row} (h : RowsBy H as rows) (e : TK H H') : RowsBy H' as rows := ⟨h.1, fun i b r h1 h2 => (h.2 i b r h1 h2).tk e⟩
theorem RowsBy.snoc {H : Hp} {as : List Addr} {rows : List LK.Row} (h : RowsBy H as rows) {b : Addr} {r : LK.Row} (hb : IsRow H b r) : RowsBy H (as ++ [b]) (rows ++ [r]) := by
  refine ⟨by rw [List.length_append, List.length_append, h.1]; rfl, fun i c q h1 h2 => ?_⟩
  rcases Nat.lt_or_ge i as.length with lt | ge
  · rw [List.getElem?_append_left lt] at h1
    rw [List.getElem?_append_left (by rw [← h.1]; exact lt)] at h2
    exact h.2 i c q h1 h2
  · rw [List.getElem?_append_right ge] at h1
    rw [List.getElem?_append_right (by rw [← h.1]; exact ge)] at h2
    have e : i - as.length = 0 := by
      rcases Nat.eq_zero_or_pos (i - as.length) with z | z
      · exact z
      · rw [List.getElem?_eq_none (by simp; omega)] at h1; cases h1
    rw [e] at h1
    rw [← h.1, e] at h2
    simp at h1 h2
    subst h1 h2
    exact hb

/-! ### more of what the pot gives -/
def SomeV (ns : List Int) (most : Nat) : V → Hp → Prop := fun v H => ∃ u os, v = .ref u ∧ TupI H u os ∧ os.length ≤ most ∧ ∀ o ∈ os, o ∈ ns
def RowV (R : LK.Row → Prop) : V → Hp → Prop := fun v H => ∃ b r, v = .ref b ∧ IsRow H b r ∧ R r
section
variable {K : PySem.W.Frag} {σ : L2.St} {H : Hp} {p : Addr} {ta tb tc te tv tm tt : TE} {g : TG} {tz tu : TS} {D : Ends} {PV PW : V → Hp → Prop} {A B : V → Prop} {t : TT}
theorem EvD.imp (h : EvD p te σ H PV) (hi : ∀ v H', PV v H' → PW v H') : EvD p te σ H PW := fun Q q => h Q fun v H' a b c => q v H' a b (hi v H' c)
theorem EvD.after {H0 : Hp} (e : Ex H0 H) (h : EvD p te σ H PV) (Q : VK) (q : ∀ v H', Pex p H0 H' → PotAt H' p → PV v H' → Q v H') : te σ H Q := h Q fun v H' a b c => q v H' ((Pex.of e).trans a) b c
theorem ed_some {a : Addr} {ns : List Int} {most : Nat} {E : XK} (hv : Ev tv σ H (.ref p)) (ht : Ev tt σ H (.ref a)) (hm : Ev tm σ H (.int (most : Nat))) (hp : PotAt H p) (ha : a ≠ p) (hx : H a = some (.lst (ns.map V.int))) (hn : ns.length ≤ 1000) (h1 : most ≤ 1000) :
    EvD p (tCall spSome [] E (tCons tv (tCons tt (tCons tm tNil)))) σ H (SomeV ns most) := fun Q q =>
  (ea_cons hv (ea_cons ht (ea_cons hm ea_nil))) H (Ex.refl H) _ fun H1 e1 => ⟨p, a, ns, most, rfl, hp.ex e1, ha, e1 _ _ hx, hn, h1, fun u H' os _ _ px pt hu lo ho => q _ H' ((Pex.of e1).trans px) pt ⟨u, os, rfl, hu, lo, ho⟩⟩
/-- .. where how many is drawn too -/
theorem ed_someD {a : Addr} {ns : List Int} {most : Nat} {E : XK} (hv : Ev tv σ H (.ref p)) (ht : Ev tt σ H (.ref a)) (hm : ∀ H1, Ex H H1 → EvD p tm σ H1 (fun x _ => ∃ n : Nat, x = .int (n : Nat) ∧ n ≤ most)) (ha : a ≠ p) (hx : H a = some (.lst (ns.map V.int))) (hn : ns.length ≤ 1000) (h1 : most ≤ 1000) :
    EvD p (tCall spSome [] E (tCons tv (tCons tt (tCons tm tNil)))) σ H (SomeV ns most) := fun Q q =>
  hv H (Ex.refl H) _ fun H1 e1 => ht H1 e1 _ fun H2 e2 => hm H2 (e1.trans e2) _ fun x H3 px3 pt3 hx3 => by
    obtain ⟨n, rfl, hn'⟩ := hx3
    exact ⟨p, a, ns, n, rfl, pt3, ha, px3 _ _ ha ((e1.trans e2) _ _ hx), hn, by omega, fun u H' os _ _ px pt hu lo ho => q _ H' (((Pex.of (e1.trans e2)).trans px3).trans px) pt ⟨u, os, rfl, hu, by omega, ho⟩⟩
theorem tup_pot {Q : VK} {H2 : Hp} {xs : List V} (px : Pex p H H2) (pt : PotAt H2 p) (hl : xs.length ≤ 100000) (q : ∀ u H', Pex p H H' → PotAt H' p → Ex H2 H' → H' u = some (.tup xs) → Q (.ref u) H') :
    xs.length ≤ sizeLine ∧ ∀ u, H2 u = none → Q (.ref u) (upd H2 u (.tup xs)) :=
  ⟨sz_of hl, fun u hu => q u _ (px.mut (px.none (pt.ne hu) hu)) (pt.ex (Ex.new hu)) (Ex.new hu) upd_same⟩
theorem ed_use {ns : List Int} {most : Nat} {R : LK.Row → Prop} (h : EvD p tb σ H (SomeV ns most)) (hR : ∀ l : List Int, l.length ≤ most → (∀ o ∈ l, o ∈ ns) → R (.use l)) : EvD p (tTup (tCons (tC (.str "use")) (tCons tb tNil))) σ H (RowV R) := fun Q q =>
  h _ fun v H2 px pt hv => by
    obtain ⟨u, os, rfl, hu, lo, ho⟩ := hv
    exact tup_pot px pt (show 2 ≤ 100000 by decide) fun b H' px' pt' e' hb => q _ H' px' pt' ⟨b, .use os, rfl, ⟨u, hb, hu.ex e'⟩, hR os lo ho⟩
theorem ed_stop {ns : List Int} {most : Nat} {R : LK.Row → Prop} (h1 : EvD p ta σ H (fun x _ => ∃ z, x = .str z)) (h : ∀ H1, Pex p H H1 → PotAt H1 p → EvD p tb σ H1 (SomeV ns most)) (hR : ∀ l : List Int, l.length ≤ most → (∀ o ∈ l, o ∈ ns) → R (.stop l)) :
    EvD p (tTup (tCons (tC (.str "stop")) (tCons ta (tCons tb tNil)))) σ H (RowV R) := fun Q q =>
  h1 _ fun x H1 px1 pt1 hx => h H1 px1 pt1 _ fun v H2 px pt hv => by
    obtain ⟨z, rfl⟩ := hx
    obtain ⟨u, os, rfl, hu, lo, ho⟩ := hv
    exact tup_pot (px1.trans px) pt (show 3 ≤ 100000 by decide) fun b H' px' pt' e' hb => q _ H' px' pt' ⟨b, .stop os, rfl, ⟨z, u, hb, hu.ex e'⟩, hR os lo ho⟩
theorem ed_set {ns : List Int} {most : Nat} {n : Int} {R : LK.Row → Prop} (h1 : Ev ta σ H (.int n)) (hp : PotAt H p) (h : ∀ H1, Pex p H H1 → PotAt H1 p → EvD p tb σ H1 (SomeV ns most)) (hR : ∀ l : List Int, l.length ≤ most → (∀ o ∈ l, o ∈ ns) → R (.set n l)) :
    EvD p (tTup (tCons (tC (.str "set")) (tCons ta (tCons tb tNil)))) σ H (RowV R) := fun Q q =>
  h1 H (Ex.refl H) _ fun H1 e1 => h H1 (Pex.of e1) (hp.ex e1) _ fun v H2 px pt hv => by
    obtain ⟨u, os, rfl, hu, lo, ho⟩ := hv
    exact tup_pot ((Pex.of e1).trans px) pt (show 3 ≤ 100000 by decide) fun b H' px' pt' e' hb => q _ H' px' pt' ⟨b, .set n os, rfl, ⟨u, hb, hu.ex e'⟩, hR os lo ho⟩
theorem ed_leaf {n : Int} {R : LK.Row → Prop} (h1 : Ev ta σ H (.int n)) (hp : PotAt H p) (hR : R (.leaf n)) : EvD p (tTup (tCons (tC (.str "leaf")) (tCons ta tNil))) σ H (RowV R) := fun Q q =>
  h1 H (Ex.refl H) _ fun H1 e1 => tup_pot (Pex.of e1) (hp.ex e1) (show 2 ≤ 100000 by decide) fun b H' px' pt' e' hb => q _ H' px' pt' ⟨b, .leaf n, rfl, hb, hR⟩
theorem ed_if (h : EvD p tc σ H (fun x _ => ∃ b, x = .bl b)) (h1 : ∀ H1, Pex p H H1 → PotAt H1 p → EvD p ta σ H1 PV) (h2 : ∀ H1, Pex p H H1 → PotAt H1 p → EvD p tb σ H1 PV) : EvD p (tIf (tTest tc) ta tb) σ H PV := fun Q q =>
  h _ fun x H1 px pt hx => by
    obtain ⟨b, rfl⟩ := hx
    refine ⟨b, rfl, ?_⟩
    show if b = true then ta σ H1 Q else tb σ H1 Q
    cases b
    · exact h2 H1 px pt Q fun v H' a c d => q v H' (px.trans a) c d
    · exact h1 H1 px pt Q fun v H' a c d => q v H' (px.trans a) c d
theorem ed_eqI {j : Int} (h : EvD p te σ H (fun x _ => ∃ i : Int, x = .int i ∧ A x)) : EvD p (tOp rEq te (tC (.int j))) σ H (fun x _ => ∃ b, x = .bl b) := fun Q q =>
  h _ fun x H1 px pt hx => by
    obtain ⟨i, rfl, _⟩ := hx
    exact ⟨rfl, q _ H1 px pt ⟨_, rfl⟩⟩
/-- a new list -/
def LstV (p : Addr) (H : Hp) (PX : List V → Prop) : V → Hp → Prop := fun v H' => ∃ a xs, v = .ref a ∧ H' a = some (.lst xs) ∧ PX xs ∧ xs.length ≤ 10000 ∧ a ≠ p ∧ H a = none
theorem ed_rep {x : V} {A : Nat → Prop} (hc : EvL ta σ H [x]) (hp : PotAt H p) (h : ∀ H1, Pex p H H1 → PotAt H1 p → EvD p tb σ H1 (fun v _ => ∃ n : Nat, v = .int (n : Nat) ∧ n ≤ 1000 ∧ A n)) : EvD p (tOp rRep ta tb) σ H (LstV p H fun xs => ∃ n, xs = List.replicate n x ∧ A n) := fun Q q =>
  hc H (Ex.refl H) _ fun l H1 hl e1 h1 => h H1 (Pex.of e1) (hp.ex e1) _ fun v H2 px pt hv => by
    obtain ⟨n, rfl, hn, an⟩ := hv
    have nl := hp.ne hl
    refine ⟨l, (n : Nat), [x], rfl, rfl, px _ _ nl h1, by omega, by omega, sz_of (by rw [Int.toNat_natCast]; show 1 * n ≤ 100000; omega), fun u hu => ?_⟩
    have nu := pt.ne hu
    have pxx : Pex p H H2 := (Pex.of e1).trans px
    have h0 := pxx.none nu hu
    have er : (List.replicate (n : Int).toNat [x]).flatten = List.replicate n x := by rw [Int.toNat_natCast]; simp
    rw [er]
    exact q _ _ (pxx.mut h0) (pt.ex (Ex.new hu)) ⟨u, _, rfl, upd_same, ⟨n, rfl, an⟩, by rw [List.length_replicate]; omega, nu, h0⟩
theorem ed_cat {PX PY : List V → Prop} (h1 : EvD p ta σ H (LstV p H PX)) (h2 : ∀ H1, Pex p H H1 → PotAt H1 p → EvD p tb σ H1 (LstV p H1 PY)) (hz : ∀ xs ys, PX xs → PY ys → xs.length + ys.length ≤ 10000) : EvD p (tOp rCat ta tb) σ H (LstV p H fun zs => ∃ xs ys, zs = xs ++ ys ∧ PX xs ∧ PY ys) := fun Q q =>
  h1 _ fun v H1 px1 pt1 hv => h2 H1 px1 pt1 _ fun v2 H2 px2 pt2 hv2 => by
    obtain ⟨a, xs, rfl, ha, hx, la, na, _⟩ := hv
    obtain ⟨b, ys, rfl, hb, hy, lb, nb, _⟩ := hv2
    refine ⟨a, b, xs, ys, rfl, rfl, px2 _ _ na ha, hb, sz_of (by omega), fun u hu => ?_⟩
    have nu := pt2.ne hu
    have h0 := (px1.trans px2).none nu hu
    exact q _ _ ((px1.trans px2).mut h0) (pt2.ex (Ex.new hu)) ⟨u, _, rfl, upd_same, ⟨xs, ys, rfl, hx, hy⟩, by rw [List.length_append]; exact hz xs ys hx hy, nu, h0⟩
theorem q_par3R {i j l : Nat} {ts : TA} (h : ts σ H fun vs H1 => ∃ u v w, vs = [u, v, w] ∧ tz D (((σ.set i (some u)).set j (some v)).set l (some w)) H1) : tSeq (tPar3 i j l ts) tz D σ H := h
theorem tcons1 {tr : TA} {Q : List V → Hp → Prop} (h : te σ H fun x H1 => tr σ H1 fun xs H2 => Q (x :: xs) H2) : tCons te tr σ H Q := h
theorem tupVR {i : Nat} {v : V} {r : List V → Hp → VK → Prop} {Q : VK} (hv : σ[i]? = some (some v)) (h : te σ H fun x H1 => r [x] H1 fun y H2 => 2 ≤ sizeLine ∧ ∀ u, H2 u = none → Q (.ref u) (upd H2 u (.tup [v, y]))) : tTup (tCons (tVar i) (tCons (tCB r (tCons te tNil)) tNil)) σ H Q := ⟨v, hv, h⟩
theorem ed_add1 {n : Nat} (h : EvD p te σ H (fun x _ => ∃ d : Int, x = .int d ∧ 0 ≤ d ∧ d < n)) : EvD p (tOp (rI0 fun i j => V.int (i + j)) (tC (.int 1)) te) σ H (fun x _ => ∃ k : Nat, x = .int (k : Nat) ∧ k ≤ n) := fun Q q =>
  h _ fun v H1 px pt hv => by
    obtain ⟨d, rfl, d0, d1⟩ := hv
    exact ⟨1, d, rfl, rfl, q _ H1 px pt ⟨(1 + d).toNat, by rw [Int.toNat_of_nonneg (by omega)], by omega⟩⟩
theorem ed_names {n : Nat} {E : XK} (hv : Ev tv σ H (.ref p)) (hm : ∀ H1, Ex H H1 → EvD p tm σ H1 (fun x _ => ∃ k : Nat, x = .int (k : Nat) ∧ k ≤ n)) (hn : n ≤ 1000) :
    EvD p (tCall spNames [] E (tCons tv (tCons tm tNil))) σ H (fun v H' => ∃ (l : Addr) (ns : List Int), v = .ref l ∧ H' l = some (.lst (ns.map V.int)) ∧ ns.length ≤ n ∧ ns.Nodup ∧ (∀ x ∈ ns, 0 ≤ x) ∧ l ≠ p) := fun Q q =>
  hv H (Ex.refl H) _ fun H1 e1 => hm H1 e1 _ fun x H2 px pt hx => by
    obtain ⟨k, rfl, hk⟩ := hx
    exact ⟨p, k, rfl, pt, by omega, fun l H' ns _ nl px' pt' hl hlen nd nn => q _ H' (((Pex.of e1).trans px).trans px') pt' ⟨l, ns, rfl, hl, by omega, nd, nn, nl⟩⟩
theorem s_appD {l : Addr} {xs : List V} (hl : H l = some (.lst xs)) (hlp : l ≠ p) (ha : Ev ta σ H (.ref l)) (h : ∀ H1, Ex H H1 → EvD p te σ H1 PV) (hz : xs.length < 100000) (k : ∀ v H1, Pex p H H1 → PotAt H1 p → PV v H1 → D.nx σ (upd H1 l (.lst (xs ++ [v])))) :
    tDrop (tBM K "list" rAppend ta (tCons te tNil)) D σ H := ha H (Ex.refl H) _ fun H1 e1 =>
  ⟨Or.inl ⟨rfl, xs, sq_of (e1 l _ hl)⟩, h H1 e1 _ fun v H2 px pt hv => ⟨l, xs, v, rfl, rfl, px _ _ hlp (e1 l _ hl), sz_lt hz, k v H2 ((Pex.of e1).trans px) pt hv⟩⟩
theorem q_appD {l : Addr} {xs : List V} (hl : H l = some (.lst xs)) (hlp : l ≠ p) (ha : Ev ta σ H (.ref l)) (h : ∀ H1, Ex H H1 → EvD p te σ H1 PV) (hz : xs.length < 100000) (k : ∀ v H1, Pex p H H1 → PotAt H1 p → PV v H1 → tz D σ (upd H1 l (.lst (xs ++ [v])))) :
    tSeq (tDrop (tBM K "list" rAppend ta (tCons te tNil))) tz D σ H := s_appD (D := { D with nx := tz D }) hl hlp ha h hz k
theorem q_forI {tl : TE} {j : Nat} (Pv : List V → Addr → Nat → L2.St → Hp → Prop) (h : ∀ R : VK, (∀ a xs H1, H1 a = some (.lst xs) → Pv xs a 0 σ H1 → R (.ref a) H1) → tl σ H R) (hl : ∀ xs a i σ' H', Pv xs a i σ' H' → H' a = some (.lst xs))
    (hs : ∀ xs a i x σ' H', xs[i]? = some x → Pv xs a i σ' H' → tu { D with nx := Pv xs a (i + 1), ct := Pv xs a (i + 1), bk := tz D } (σ'.set j (some x)) H') (hd : ∀ xs a σ' H', Pv xs a xs.length σ' H' → tz D σ' H') :
    tSeq (tFor (iList K tl) (gName j) tu) tz D σ H := h _ fun a xs H1 ha h0 =>
  ⟨a, rfl, ⟨xs, sq_of ha⟩, for_list (D := { D with nx := tz D }) (Pv xs a) h0 (fun i σ' H' _ pv => sq_of (hl xs a i σ' H' pv)) (fun i x σ' H' hi pv => hs xs a i x σ' H' hi pv) (fun σ' H' pv => hd xs a σ' H' pv)⟩
end
end LKW

/-! The law's rows and its small ones. -/
namespace LKW
open PySem PySem.Spec PyProof.Rows L2 Evl
def spRows : Sp := fun vs H Q _ => ∃ (p : Addr) (Vn Sn : Nat), vs = [.ref p, .int (Vn : Nat), .int (Sn : Nat), .int 2] ∧ PotAt H p ∧ 1 ≤ Vn ∧ Vn ≤ 5 ∧ Sn ≤ 4 ∧ Vn * Sn ≤ 12 ∧
  ∀ t H' a o rows out, Pex p H H' → H' t = some (.tup [.ref a, .ref o]) → RowsAt H' a rows → H' o = some (.lst (out.map V.int)) → Good rows out → (∀ r ∈ rows, RowFits r) → Q (.ref t) H'
def spSmall : Sp := fun vs H Q _ => ∃ (p : Addr), vs = [.ref p] ∧ PotAt H p ∧
  ∀ t H' a o rows out, Pex p H H' → H' t = some (.tup [.ref a, .ref o]) → RowsAt H' a rows → H' o = some (.lst (out.map V.int)) → Good rows out → (∀ r ∈ rows, RowFits r) → Q (.ref t) H'
structure Sep (p N T F a : Addr) (H : Hp) : Prop where
  ap : a ≠ p
  Np : N ≠ p
  Tp : T ≠ p
  Fp : F ≠ p
  TF : T ≠ F
  NT : N ≠ T
  NF : N ≠ F
  aT : a ≠ T
  aF : a ≠ F
  T0 : H T = none
  F0 : H F = none
structure RI (p N T F a : Addr) (H : Hp) (ns : List Int) (ys : List V) (k : Nat) (as : List Addr) (rows : List LK.Row) (H' : Hp) : Prop where
  ha : H' a = some (.lst ys)
  hN : H' N = some (.lst (ns.map V.int))
  hT : H' T = some (.lst ((ns.take k).map V.int))
  hF : H' F = some (.lst (as.map V.ref))
  by_ : RowsBy H' as rows
  px : Pex p H H'
  pt : PotAt H' p
section
variable {p N T F a : Addr} {H H' H2 : Hp} {ns : List Int} {ys : List V} {k : Nat} {as : List Addr} {rows : List LK.Row}
theorem RI.pex (h : RI p N T F a H ns ys k as rows H') (s : Sep p N T F a H) (e : Pex p H' H2) (pt : PotAt H2 p) : RI p N T F a H ns ys k as rows H2 :=
  ⟨e _ _ s.ap h.ha, e _ _ s.Np h.hN, e _ _ s.Tp h.hT, e _ _ s.Fp h.hF, h.by_.tk (TK.pex h.pt e), h.px.trans e, pt⟩
theorem RI.ex (h : RI p N T F a H ns ys k as rows H') (e : Ex H' H2) : RI p N T F a H ns ys k as rows H2 := ⟨e _ _ h.ha, e _ _ h.hN, e _ _ h.hT, e _ _ h.hF, h.by_.tk (TK.ex e), h.px.trans (Pex.of e), h.pt.ex e⟩
theorem PotAt.set {q : Addr} {o : HO} (h : PotAt H' p) (n : p ≠ q) : PotAt (upd H' q o) p := let ⟨x, y, h1, h2⟩ := h; ⟨x, y, by rw [upd_ne n]; exact h1, h2⟩
theorem RI.addF {b : Addr} {r : LK.Row} (h : RI p N T F a H ns ys k as rows H') (s : Sep p N T F a H) (hb : IsRow H' b r) : RI p N T F a H ns ys k (as ++ [b]) (rows ++ [r]) (upd H' F (.lst (as.map V.ref ++ [.ref b]))) :=
  ⟨by rw [upd_ne s.aF]; exact h.ha, by rw [upd_ne s.NF]; exact h.hN, by rw [upd_ne s.TF]; exact h.hT, by rw [upd_same, List.map_append]; rfl, (h.by_.snoc hb).tk (TK.mut h.hF), h.px.mut s.F0, h.pt.set (Ne.symm s.Fp)⟩
theorem RI.addT {v : Int} (h : RI p N T F a H ns ys k as rows H') (s : Sep p N T F a H) (hv : ns[k]? = some v) : RI p N T F a H ns ys (k + 1) as rows (upd H' T (.lst ((ns.take k).map V.int ++ [.int v]))) :=
  ⟨by rw [upd_ne s.aT]; exact h.ha, by rw [upd_ne s.NT]; exact h.hN, by rw [upd_same, List.take_add_one, hv]; simp, by rw [upd_ne (Ne.symm s.TF)]; exact h.hF, h.by_.tk (TK.mut h.hT), h.px.mut s.T0, h.pt.set (Ne.symm s.Tp)⟩
end
theorem not_before {α : Type} {ns : List α} {k : Nat} {v : α} (hd : ns.Nodup) (hv : ns[k]? = some v) : v ∉ ns.take k := by
  have h : (ns.take (k + 1)).Nodup := (List.take_sublist _ _).nodup hd
  rw [List.take_add_one, hv] at h
  intro hm
  have := (List.nodup_append.mp h).2.2 v hm v (by simp)
  exact this rfl
theorem cw_rep {n s u : Nat} : cw "value" (List.replicate n (V.str "value") ++ List.replicate s (.str "stop") ++ List.replicate u (.str "use")) = n ∧ cw "stop" (List.replicate n (V.str "value") ++ List.replicate s (.str "stop") ++ List.replicate u (.str "use")) = s := by
  have h1 : (V.str "stop" = V.str "value") = False := eq_false (by decide +kernel)
  have h2 : (V.str "use" = V.str "value") = False := eq_false (by decide +kernel)
  have h3 : (V.str "value" = V.str "stop") = False := eq_false (by decide +kernel)
  have h4 : (V.str "use" = V.str "stop") = False := eq_false (by decide +kernel)
  unfold cw
  constructor
  · rw [List.countP_append, List.countP_append, List.countP_replicate, List.countP_replicate, List.countP_replicate]
    simp [h1, h2]
  · rw [List.countP_append, List.countP_append, List.countP_replicate, List.countP_replicate, List.countP_replicate]
    simp [h3, h4]
theorem word_of {n s u : Nat} {x : V} (h : x ∈ List.replicate n (V.str "value") ++ List.replicate s (.str "stop") ++ List.replicate u (.str "use")) : x = .str "value" ∨ x = .str "stop" ∨ x = .str "use" := by
  rcases List.mem_append.mp h with h | h
  · rcases List.mem_append.mp h with h | h
    · exact .inl (List.eq_of_mem_replicate h)
    · exact .inr (.inl (List.eq_of_mem_replicate h))
  · exact .inr (.inr (List.eq_of_mem_replicate h))
section
variable {P : Program} {w : World} {K : PySem.W.Frag} {mg : Str → Option Value} {base : Heap} {CN CS : Addr}

theorem ok_Rows {f : Addr} {fd : FuncData} (F : Fun K "_law_rows" "_law_rows" sRows f fd) (T : Txt K mg CN CS) (dDraw : Df P w K mg base "_law_draw" PDraw 1 (spDraw)) (dNames : Df P w K mg base "_law_names" PNames 3 (spNames)) (dShuffled : Df P w K mg base "_law_shuffled" PShuffled 2 (spShuffled)) (dSome : Df P w K mg base "_law_some" PSome 2 (spSome)) : FnOk P w K mg base CX0 4 f fd PRows (spRows) := by
  refine F.ok scRows (fun vs H Q E h => ?_) (fun cdv A outer s H vs Q E hr h => ?_)
  · obtain ⟨p, Vn, Sn, rfl, hp, v1, v5, s4, vs, q⟩ := h
    rfl
  · obtain ⟨p, Vn, Sn, rfl, hp, v1, v5, s4, vs, q⟩ := h
    refine ⟨_, (pss_cons (ps_par3 (i := 4) (j := 5) (l := 6) (by rfl) scRows.nd rfl rfl rfl (by decide) (by decide) (by decide) rfl rfl rfl (pa_cons (pe_call dNames.G (hr.mono (by decide)) (by rfl) dNames.g dNames.kp dNames.b .nil pass0 (pa_cons (pv 0) (pa_cons (pe_op op_add pe_int (pe_call dDraw.G (hr.mono (by decide)) (by rfl) dDraw.g dDraw.kp dDraw.b .nil pass0 (pa_cons (pv 0) (pa_cons (pv 1) pa_nil)))) pa_nil))) (pa_cons (pe_lst pa_nil) (pa_cons (pe_lst pa_nil) pa_nil))) (by rfl))
      (pss_cons (ps_set (i := 7) scRows.nd rfl (.inl rfl) (pe_op op_cat (pe_op op_cat (pe_op op_rep (pe_lst (pa_cons pe_str pa_nil)) (pe_callB call_len_seq (by rfl) T.m_len (by decide +kernel) (pa_cons (pv 4) pa_nil))) (pe_op op_rep (pe_lst (pa_cons pe_str pa_nil)) (pe_call dDraw.G (hr.mono (by decide)) (by rfl) dDraw.g dDraw.kp dDraw.b .nil pass0 (pa_cons (pv 0) (pa_cons (pe_op op_add (pv 2) pe_int) pa_nil))))) (pe_op op_rep (pe_lst (pa_cons pe_str pa_nil)) (pe_call dDraw.G (hr.mono (by decide)) (by rfl) dDraw.g dDraw.kp dDraw.b .nil pass0 (pa_cons (pv 0) (pa_cons (pe_op op_add (pv 3) pe_int) pa_nil))))))
      (pss_cons (ps_for PassesOwn.never rfl (pi_list (pe_call dShuffled.G (hr.mono (by decide)) (by rfl) dShuffled.g dShuffled.kp dShuffled.b .nil pass0 (pa_cons (pv 0) (pa_cons (pv 7) pa_nil)))) (pg_name (i := 8) scRows.nd rfl (.inl rfl)) (pss_one (ps_if (pt_cmpR op_eq (pv 8) pe_str (nomark _)) (pss_one (ps_expr (pe_bm PySem.F.plainAttrs_list PySem.F.slot_list_append PySem.F.type_list_append mt_append (pv 6) (pa_cons (pe_tup (pa_cons pe_str (pa_cons (pe_ix ix_list (pe_lst (pa_cons pe_str (pa_cons pe_str (pa_cons pe_str (pa_cons pe_str pa_nil))))) (pe_call dDraw.G (hr.mono (by decide)) (by rfl) dDraw.g dDraw.kp dDraw.b .nil pass0 (pa_cons (pv 0) (pa_cons pe_int pa_nil))) (fun _ _ => rfl)) (pa_cons (pe_call dSome.G (hr.mono (by decide)) (by rfl) dSome.g dSome.kp dSome.b .nil pass0 (pa_cons (pv 0) (pa_cons (pv 5) (pa_cons pe_int pa_nil)))) pa_nil)))) pa_nil)))) (pss_one (ps_if (pt_cmpR op_eq (pv 8) pe_str (nomark _)) (pss_one (ps_expr (pe_bm PySem.F.plainAttrs_list PySem.F.slot_list_append PySem.F.type_list_append mt_append (pv 6) (pa_cons (pe_tup (pa_cons pe_str (pa_cons (pe_call dSome.G (hr.mono (by decide)) (by rfl) dSome.g dSome.kp dSome.b .nil pass0 (pa_cons (pv 0) (pa_cons (pv 5) (pa_cons pe_int pa_nil)))) pa_nil))) pa_nil)))) (pss_cons (ps_set (i := 9) scRows.nd rfl (.inl rfl) (pe_ix ix_list (pv 4) (pe_callB call_len_seq (by rfl) T.m_len (by decide +kernel) (pa_cons (pv 5) pa_nil)) (fun _ _ => rfl)))
      (pss_cons (ps_expr (pe_bm PySem.F.plainAttrs_list PySem.F.slot_list_append PySem.F.type_list_append mt_append (pv 6) (pa_cons (pe_ifExp (pt_cmpR op_eq (pe_call dDraw.G (hr.mono (by decide)) (by rfl) dDraw.g dDraw.kp dDraw.b .nil pass0 (pa_cons (pv 0) (pa_cons pe_int pa_nil))) pe_int (nomark _)) (pe_tup (pa_cons pe_str (pa_cons (pv 9) pa_nil))) (pe_tup (pa_cons pe_str (pa_cons (pv 9) (pa_cons (pe_call dSome.G (hr.mono (by decide)) (by rfl) dSome.g dSome.kp dSome.b .nil pass0 (pa_cons (pv 0) (pa_cons (pv 5) (pa_cons pe_int pa_nil)))) pa_nil))))) pa_nil)))
      (pss_one (ps_expr (pe_bm PySem.F.plainAttrs_list PySem.F.slot_list_append PySem.F.type_list_append mt_append (pv 5) (pa_cons (pv 9) pa_nil)))))))))))
      (pss_one (ps_ret (pe_tup (pa_cons (pv 6) (pa_cons (pe_callTy call_list_of (by rfl) T.m_list (by decide +kernel) (pa_cons (pe_call dSome.G (hr.mono (by decide)) (by rfl) dSome.g dSome.kp dSome.b .nil pass0 (pa_cons (pv 0) (pa_cons (pv 5) (pa_cons (pe_ix ix_list (pe_lst (pa_cons pe_int (pa_cons pe_int (pa_cons pe_int (pa_cons pe_int pa_nil))))) (pe_call dDraw.G (hr.mono (by decide)) (by rfl) dDraw.g dDraw.kp dDraw.b .nil pass0 (pa_cons (pv 0) (pa_cons pe_int pa_nil))) (fun _ _ => rfl)) pa_nil)))) pa_nil)) pa_nil)))))))), ?_⟩
    refine q_par3R (tcons1 ?_)
    refine ed_names (n := Vn) (ev_var rfl) (fun H1 e1 => ed_add1 (ed_draw (ev_var rfl) (ev_var rfl) (hp.ex e1) (by omega) (by omega))) (by omega) _ ?_
    rintro v H1 px1 pt1 ⟨N, ns, rfl, hN1, lN, ndN, nnN, Np⟩
    refine ⟨sz_of (Nat.zero_le _), fun T hT => ⟨sz_of (Nat.zero_le _), fun F hF => ⟨_, _, _, rfl, ?_⟩⟩⟩
    have e2 : Ex H1 (upd H1 T (.lst [])) := Ex.new hT
    have hT2 : (upd H1 T (.lst [])) T = some (.lst []) := upd_same
    have FT : F ≠ T := fun z => by rw [z, hT2] at hF; cases hF
    have hF1 := fresh_back e2 hF
    have NT : N ≠ T := fun z => by rw [← z, hN1] at hT; cases hT
    have NF : N ≠ F := fun z => by rw [← z, hN1] at hF1; cases hF1
    have Tp := pt1.ne hT
    have Fp := pt1.ne hF1
    have T0 := px1.none Tp hT
    have F0 := px1.none Fp hF1
    have e3 : Ex (upd H1 T (.lst [])) (upd (upd H1 T (.lst [])) F (.lst [])) := Ex.new hF
    have hF3 : (upd (upd H1 T (.lst [])) F (.lst [])) F = some (.lst []) := upd_same
    have hT3 := e3 _ _ hT2
    have hN3 := e3 _ _ (e2 _ _ hN1)
    have px3 := px1.trans (Pex.of (e2.trans e3))
    have pt3 := pt1.ex (e2.trans e3)
    generalize upd (upd H1 T (.lst [])) F (.lst []) = H3 at hF3 hT3 hN3 px3 pt3 ⊢
    refine q_asgDn (ed_cat (PX := fun xs => ∃ s, s ≤ Sn ∧ xs = List.replicate ns.length (.str "value") ++ List.replicate s (.str "stop")) (PY := fun xs => ∃ u, u ≤ 2 ∧ xs = List.replicate u (.str "use"))
      (EvD.imp (ed_cat (PX := fun xs => xs = List.replicate ns.length (.str "value")) (PY := fun xs => ∃ s, s ≤ Sn ∧ xs = List.replicate s (.str "stop"))
        (EvD.imp (ed_rep (x := .str "value") (A := fun n => n = ns.length) (el_lst (ea_cons ev_c ea_nil) (by decide)) pt3 (fun H4 px4 pt4 => EvD.imp (ed_of (ev_len (ev_var rfl) (sq_of (px4 _ _ Np hN3))) pt4) fun v H' hv => ⟨ns.length, by rw [hv, List.length_map], by omega, rfl⟩)) ?_)
        (fun H4 px4 pt4 => EvD.imp (ed_rep (x := .str "stop") (A := fun n => n ≤ Sn) (el_lst (ea_cons ev_c ea_nil) (by decide)) pt4 (fun H5 px5 pt5 => EvD.imp (ed_draw (m := (Sn : Int) + 1) (ev_var rfl) (ev_op (ev_var rfl) ev_c rv_I0) pt5 (by omega) (by omega)) ?_)) ?_) ?_) ?_)
      (fun H4 px4 pt4 => EvD.imp (ed_rep (x := .str "use") (A := fun n => n ≤ 2) (el_lst (ea_cons ev_c ea_nil) (by decide)) pt4 (fun H5 px5 pt5 => EvD.imp (ed_draw (m := 3) (ev_var rfl) (ev_is (ev_op (ev_var (v := .int 2) rfl) ev_c rv_I0) rfl) pt5 (by omega) (by omega)) ?_)) ?_) ?_) ?_
    · rintro v H' ⟨a, xs, rfl, h1, ⟨n, rfl, rfl⟩, h3⟩
      exact ⟨a, _, rfl, h1, rfl, h3⟩
    · rintro v H' ⟨d, rfl, d0, d1⟩
      exact ⟨d.toNat, by rw [Int.toNat_of_nonneg d0], by omega, by omega⟩
    · rintro v H' ⟨a, xs, rfl, h1, ⟨n, rfl, hn⟩, h3⟩
      exact ⟨a, _, rfl, h1, ⟨n, hn, rfl⟩, h3⟩
    · rintro xs ys rfl ⟨s, hs, rfl⟩
      rw [List.length_replicate, List.length_replicate]; omega
    · rintro v H' ⟨a, xs, rfl, h1, ⟨_, _, rfl, rfl, s, hs, rfl⟩, h3⟩
      exact ⟨a, _, rfl, h1, ⟨s, hs, rfl⟩, h3⟩
    · rintro v H' ⟨d, rfl, d0, d1⟩
      exact ⟨d.toNat, by rw [Int.toNat_of_nonneg d0], by omega, by omega⟩
    · rintro v H' ⟨a, xs, rfl, h1, ⟨n, rfl, hn⟩, h3⟩
      exact ⟨a, _, rfl, h1, ⟨n, hn, rfl⟩, h3⟩
    · rintro xs ys ⟨s, hs, rfl⟩ ⟨u, hu, rfl⟩
      rw [List.length_append, List.length_replicate, List.length_replicate, List.length_replicate]; omega
    rintro v H4 px4 pt4 ⟨W, words, rfl, hW, ⟨_, _, rfl, ⟨s, hs, rfl⟩, ⟨u, hu, rfl⟩⟩, lW, Wp, _⟩
    have hN4 := px4 _ _ Np hN3
    have hT4 := px4 _ _ Tp hT3
    have hF4 := px4 _ _ Fp hF3
    have hpx4 := px3.trans px4
    obtain ⟨cv, cs⟩ := cw_rep (n := ns.length) (s := s) (u := u)
    generalize hws : List.replicate ns.length (V.str "value") ++ List.replicate s (.str "stop") ++ List.replicate u (.str "use") = ws at *
    have lws : ws.length = ns.length + s + u := by rw [← hws, List.length_append, List.length_append, List.length_replicate, List.length_replicate, List.length_replicate]
    have wof : ∀ x ∈ ws, x = .str "value" ∨ x = .str "stop" ∨ x = .str "use" := fun x hx => word_of (hws ▸ hx)
    refine q_forI (fun ys a i σ' H' => ∃ x y rows as, σ' = [some (.ref p), some (.int (Vn : Nat)), some (.int (Sn : Nat)), some (.int 2), some (.ref N), some (.ref T), some (.ref F), some (.ref W), x, y] ∧ Sep p N T F a H ∧ ys.Perm ws ∧ RI p N T F a H ns ys (cw "value" (ys.take i)) as rows H' ∧ Made ns (ys.take i) rows) ?_ (fun ys a i σ' H' h => let ⟨x, y, rows, as, _, _, _, h, _⟩ := h; h.ha) ?_ ?_
    · intro R k
      refine shuf_call (ev_var rfl) (ev_var rfl) hW Wp pt4 (by rw [lws]; omega) fun a H5 ys ha ap px5 pt5 h5 pm => k a ys H5 h5 ?_
      have aT : a ≠ T := fun z => by rw [z, hT4] at ha; cases ha
      have aF : a ≠ F := fun z => by rw [z, hF4] at ha; cases ha
      exact ⟨none, none, [], [], rfl, ⟨ap, Np, Tp, Fp, Ne.symm FT, NT, NF, aT, aF, T0, F0⟩, pm, ⟨h5, px5 _ _ Np hN4, px5 _ _ Tp hT4, px5 _ _ Fp hF4, ⟨rfl, fun i b r h => by simp at h⟩, hpx4.trans px5, pt5⟩, Made.nil⟩
    · rintro ys a i x σ' H' hx ⟨x0, y0, rows, as, rfl, sp, pm, ri, md⟩
      have tk : ys.take (i + 1) = ys.take i ++ [x] := by rw [List.take_add_one, hx]; rfl
      have lr : rows.length ≤ 11 := by
        rw [md.len, List.length_take]
        have := pm.length_eq
        omega
      have las : as.length < 100000 := by rw [ri.by_.1]; omega
      have ord := md.ord
      generalize hk : cw "value" (ys.take i) = k at ri ord
      have lT : (ns.take k).length ≤ 1000 := by rw [List.length_take]; omega
      rcases wof x (pm.mem_iff.mp (List.mem_of_getElem? hx)) with rfl | rfl | rfl
      · refine s_if (b := false) (et_is (et_test (ev_op (ev_var rfl) ev_c (rv_eq rfl))) (by decide +kernel)) (fun z => nomatch z) fun _ H5 e5 => ?_
        refine s_if (b := false) (et_is (et_test (ev_op (ev_var rfl) ev_c (rv_eq rfl))) (by decide +kernel)) (fun z => nomatch z) fun _ H6 e6 => ?_
        have ri6 := ri.ex (e5.trans e6)
        have kc : cw "value" (ys.take (i + 1)) = k + 1 := by rw [tk, cw_snoc, hk, if_pos rfl]
        have klt : k + 1 ≤ ns.length := by
          rw [← kc, ← cv]
          exact Nat.le_trans ((List.take_sublist _ _).countP_le) (Nat.le_of_eq (pm.countP_eq _))
        have hv := List.getElem?_eq_getElem (l := ns) (i := k) (by omega)
        generalize ns[k] = v at hv
        have nv := not_before ndN hv
        refine q_asg (v := .int v) (ev_ixL (i := (k : Nat)) (ev_var rfl) (ev_is (ev_len (ev_var rfl) (sq_of ri6.hT)) (by rw [List.length_map, List.length_take, Nat.min_eq_left (by omega)])) (sq_of ri6.hN) (atI_nat (by rw [List.getElem?_map, hv]; rfl))) fun H7 e7 => ?_
        have ri7 := ri6.ex e7
        refine q_appD (PV := RowV (RowIn (LK.order rows) (some v) false)) ri7.hF sp.Fp (ev_var rfl) (fun H8 e8 => ed_if (ed_eqI (A := fun _ => True) (EvD.imp (ed_draw (m := 3) (ev_var rfl) ev_c (ri7.ex e8).pt (by decide) (by decide)) fun v H' hv => let ⟨d, a, _⟩ := hv; ⟨d, a, trivial⟩))
          (fun H9 px9 pt9 => ed_leaf (n := v) (ev_var rfl) pt9 ⟨⟨nnN v (List.mem_of_getElem? hv), by rw [ord]; exact nv⟩, rfl, rfl, Nat.zero_le _, trivial⟩)
          (fun H9 px9 pt9 => ed_set (n := v) (ev_var rfl) pt9 (fun H10 px10 pt10 => ed_some (a := T) (ns := ns.take k) (most := 3) (ev_var rfl) (ev_var rfl) ev_c pt10 sp.Tp ((((ri7.ex e8).pex sp px9 pt9).pex sp px10 pt10).hT) lT (by decide)) fun l hl ho => ⟨⟨⟨nnN v (List.mem_of_getElem? hv), by rw [ord]; exact nv⟩, by rw [ord]; exact ho⟩, rfl, rfl, hl, by show l.length ≤ 1000; omega⟩)) (by rw [List.length_map]; exact las) ?_
        rintro y H8 px8 pt8 ⟨b, r, rfl, hb, hr⟩
        have ri8 := (ri7.pex sp px8 pt8).addF sp hb
        refine s_app ri8.hT (ev_var rfl) (ev_var (v := .int v) rfl) (by rw [List.length_map]; omega) fun H9 e9 => ?_
        have ri9 := (ri8.ex e9).addT sp hv
        refine ⟨_, _, _, _, rfl, sp, pm, by rw [kc]; exact ri9, ?_⟩
        rw [tk]
        refine md.snoc hr (by decide +kernel) ?_
        rw [← tk, kc, hk, List.take_add_one, hv]
      · refine s_if (b := true) (et_is (et_test (ev_op (ev_var rfl) ev_c (rv_eq rfl))) (by decide +kernel)) (fun _ H5 e5 => ?_) (fun z => nomatch z)
        have ri5 := ri.ex e5
        have kc : cw "value" (ys.take (i + 1)) = k := by rw [tk, cw_snoc, hk, if_neg (by decide +kernel)]; rfl
        refine s_appD (PV := RowV (RowIn (LK.order rows) none true)) ri5.hF sp.Fp (ev_var rfl) (fun H6 e6 => ed_stop (ns := ns.take k) (most := 3) (EvD.imp (ed_pick (xs := [.str "a", .str "b", .str "", .str "stop 1"]) (el_lst (ea_cons ev_c (ea_cons ev_c (ea_cons ev_c (ea_cons ev_c ea_nil)))) (by decide)) (ev_var rfl) ev_c (ri5.ex e6).pt (by decide) (by decide)) fun v H' hv => by
            rcases List.mem_cons.mp hv with rfl | hv
            · exact ⟨_, rfl⟩
            rcases List.mem_cons.mp hv with rfl | hv
            · exact ⟨_, rfl⟩
            rcases List.mem_cons.mp hv with rfl | hv
            · exact ⟨_, rfl⟩
            rcases List.mem_cons.mp hv with rfl | hv
            · exact ⟨_, rfl⟩
            cases hv)
          (fun H7 px7 pt7 => ed_some (a := T) (ev_var rfl) (ev_var rfl) ev_c pt7 sp.Tp (((ri5.ex e6).pex sp px7 pt7).hT) lT (by decide)) fun l hl ho => ⟨by rw [ord]; exact ho, rfl, rfl, Nat.zero_le _, by show l.length ≤ 1000; omega⟩) (by rw [List.length_map]; exact las) ?_
        rintro y H8 px8 pt8 ⟨b, r, rfl, hb, hr⟩
        have ri8 := (ri5.pex sp px8 pt8).addF sp hb
        refine ⟨_, _, _, _, rfl, sp, pm, by rw [kc]; exact ri8, ?_⟩
        rw [tk]
        refine md.snoc hr (by decide +kernel) ?_
        rw [← tk, kc, hk]
        simp
      · refine s_if (b := false) (et_is (et_test (ev_op (ev_var rfl) ev_c (rv_eq rfl))) (by decide +kernel)) (fun z => nomatch z) fun _ H5 e5 => ?_
        refine s_if (b := true) (et_is (et_test (ev_op (ev_var rfl) ev_c (rv_eq rfl))) (by decide +kernel)) (fun _ H6 e6 => ?_) (fun z => nomatch z)
        have ri5 := ri.ex (e5.trans e6)
        have kc : cw "value" (ys.take (i + 1)) = k := by rw [tk, cw_snoc, hk, if_neg (by decide +kernel)]; rfl
        refine s_appD (PV := RowV (RowIn (LK.order rows) none false)) ri5.hF sp.Fp (ev_var rfl) (fun H7 e7 => ed_use (ns := ns.take k) (most := 2) (ed_some (a := T) (ev_var rfl) (ev_var rfl) ev_c (ri5.ex e7).pt sp.Tp (ri5.ex e7).hT lT (by decide)) fun l hl ho => ⟨by rw [ord]; exact ho, rfl, rfl, by show l.length ≤ 3; omega, by show l.length ≤ 1000; omega⟩) (by rw [List.length_map]; exact las) ?_
        rintro y H8 px8 pt8 ⟨b, r, rfl, hb, hr⟩
        have ri8 := (ri5.pex sp px8 pt8).addF sp hb
        refine ⟨_, _, _, _, rfl, sp, pm, by rw [kc]; exact ri8, ?_⟩
        rw [tk]
        refine md.snoc hr (by decide +kernel) ?_
        rw [← tk, kc, hk]
        simp
    · rintro ys a σ' H' ⟨x0, y0, rows, as, rfl, sp, pm, ri, md⟩
      rw [List.take_length] at ri md
      have cv2 : cw "value" ys = ns.length := by rw [← cv]; exact pm.countP_eq _
      have cs2 : cw "stop" ys = s := by rw [← cs]; exact pm.countP_eq _
      refine s_retR (tupVR (v := .ref F) rfl ?_)
      refine ed_someD (a := T) (ns := ns.take (cw "value" ys)) (most := 2) (ev_var rfl) (ev_var rfl) (fun H5 e5 => EvD.imp (ed_pick (xs := [.int 0, .int 0, .int 1, .int 2]) (el_lst (ea_cons ev_c (ea_cons ev_c (ea_cons ev_c (ea_cons ev_c ea_nil)))) (by decide)) (ev_var rfl) ev_c (ri.ex e5).pt (by decide) (by decide)) fun v H' hv => by
            rcases List.mem_cons.mp hv with rfl | hv
            · exact ⟨0, rfl, by decide⟩
            rcases List.mem_cons.mp hv with rfl | hv
            · exact ⟨0, rfl, by decide⟩
            rcases List.mem_cons.mp hv with rfl | hv
            · exact ⟨1, rfl, by decide⟩
            rcases List.mem_cons.mp hv with rfl | hv
            · exact ⟨2, rfl, by decide⟩
            cases hv) sp.Tp ri.hT (by rw [List.length_take]; omega) (by decide) _ ?_
      rintro v H5 px5 pt5 ⟨u', os, rfl, hu', lo, ho⟩
      have ri5 := ri.pex sp px5 pt5
      refine ⟨u', _, rfl, .inr (st_of hu'), fun l hl => ⟨sz_of (by decide), fun t ht => ?_⟩⟩
      have e6 : Ex H5 (upd H5 l (.lst (os.map V.int))) := Ex.new hl
      have hl6 : (upd H5 l (.lst (os.map V.int))) l = some (.lst (os.map V.int)) := upd_same
      have e7 : Ex (upd H5 l (.lst (os.map V.int))) (upd (upd H5 l (.lst (os.map V.int))) t (.tup [.ref F, .ref l])) := Ex.new ht
      have ri7 := ri5.ex (e6.trans e7)
      refine q t _ F l rows os ri7.px upd_same ⟨as, ri7.hF, ri7.by_⟩ (e7 _ _ hl6) ?_ md.fit
      exact md.good (m := ns.length) (s := s) (u := u) cv2 cs2 (by rw [pm.length_eq, lws]) lN hs v5 s4 hu vs rfl (fun v hv => by rw [md.ord]; exact ho v hv) (by omega)
end
end LKW

/-! The law's small ones. -/
namespace LKW
open PySem PySem.Spec PyProof.Rows L2 Evl
section
variable {K : PySem.W.Frag} {σ : L2.St} {H : Hp} {p : Addr} {ta tb tc te tv tm tt : TE} {xs ys zs : List V}
theorem tups3 (h1 : EvU ta σ H xs) (h2 : EvU tb σ H ys) (h3 : EvU tc σ H zs) : EvN (tLst (tCons ta (tCons tb (tCons tc tNil)))) σ H (fun p H' => ∃ a b c, H' p = some (.lst [.ref a, .ref b, .ref c]) ∧ H' a = some (.tup xs) ∧ H' b = some (.tup ys) ∧ H' c = some (.tup zs)) := fun H0 e0 Q q =>
  h1 H0 e0 _ fun a H1 _ e1 ha => h2 H1 (e0.trans e1) _ fun b H2 _ e2 hb => h3 H2 ((e0.trans e1).trans e2) _ fun c H3 _ e3 hc => ⟨sz_of (show 3 ≤ 100000 by decide), fun p hp =>
    q p _ (fresh_back ((e1.trans e2).trans e3) hp) (((e1.trans e2).trans e3).trans (Ex.new hp)) ⟨a, b, c, upd_same, Ex.new hp _ _ (e3 _ _ (e2 _ _ ha)), Ex.new hp _ _ (e3 _ _ hb), Ex.new hp _ _ hc⟩⟩
theorem ed_pick3 {E : XK} (hl : EvN te σ H (fun l H' => ∃ a b c, H' l = some (.lst [.ref a, .ref b, .ref c]) ∧ H' a = some (.tup xs) ∧ H' b = some (.tup ys) ∧ H' c = some (.tup zs))) (hv : Ev tv σ H (.ref p)) (hm : Ev tm σ H (.int 3)) (hp : PotAt H p) :
    EvD p (tOp (rIxL K) te (tCall spDraw [] E (tCons tv (tCons tm tNil)))) σ H (fun v H' => ∃ a, v = .ref a ∧ (H' a = some (.tup xs) ∨ H' a = some (.tup ys) ∨ H' a = some (.tup zs))) := fun Q q =>
  hl H (Ex.refl H) _ fun l H1 hl0 e1 ⟨a, b, c, h0, ha, hb, hc⟩ => draw_call (hv.mono e1) (hm.mono e1) (hp.ex e1) (by decide) (by decide) fun d H2 d0 d1 px pt => by
    have tk := TK.pex (hp.ex e1) px
    have pxx := (Pex.of e1).trans px
    have h02 := px l _ (hp.ne hl0) h0
    rcases (show d = 0 ∨ d = 1 ∨ d = 2 by omega) with rfl | rfl | rfl
    · exact ⟨l, _, 0, .ref a, rfl, rfl, sq_of h02, rfl, q _ H2 pxx pt ⟨a, rfl, .inl (tk _ _ ha)⟩⟩
    · exact ⟨l, _, 1, .ref b, rfl, rfl, sq_of h02, rfl, q _ H2 pxx pt ⟨b, rfl, .inr (.inl (tk _ _ hb))⟩⟩
    · exact ⟨l, _, 2, .ref c, rfl, rfl, sq_of h02, rfl, q _ H2 pxx pt ⟨c, rfl, .inr (.inr (tk _ _ hc))⟩⟩
end
section
variable {P : Program} {w : World} {K : PySem.W.Frag} {mg : Str → Option Value} {base : Heap} {CN CS : Addr}

theorem ok_Small {f : Addr} {fd : FuncData} (F : Fun K "_law_small" "_law_small" sSmall f fd) (T : Txt K mg CN CS) (dDraw : Df P w K mg base "_law_draw" PDraw 1 (spDraw)) (dRows : Df P w K mg base "_law_rows" PRows 4 (spRows)) : FnOk P w K mg base CX0 5 f fd PSmall (spSmall) := by
  refine F.ok scSmall (fun vs H Q E h => ?_) (fun cdv A outer s H vs Q E hr h => ?_)
  · obtain ⟨p, rfl, hp, q⟩ := h
    rfl
  · obtain ⟨p, rfl, hp, q⟩ := h
    refine ⟨_, (pss_cons (ps_asg (pe_ix ix_list (pe_lst (pa_cons (pe_tup (pa_cons pe_int (pa_cons pe_int pa_nil))) (pa_cons (pe_tup (pa_cons pe_int (pa_cons pe_int pa_nil))) (pa_cons (pe_tup (pa_cons pe_int (pa_cons pe_int pa_nil))) pa_nil)))) (pe_call dDraw.G (hr.mono (by decide)) (by rfl) dDraw.g dDraw.kp dDraw.b .nil pass0 (pa_cons (pv 0) (pa_cons pe_int pa_nil))) (fun _ _ => rfl)) (pg_tup rfl (pgs_cons (pg_name (i := 1) scSmall.nd rfl (.inl rfl)) (pgs_cons (pg_name (i := 2) scSmall.nd rfl (.inl rfl)) pgs_nil))))
      (pss_one (ps_ret (pe_call dRows.G (hr.mono (by decide)) (by rfl) dRows.g dRows.kp dRows.b .nil pass0 (pa_cons (pv 0) (pa_cons (pv 1) (pa_cons (pv 2) (pa_cons pe_int pa_nil)))))))), ?_⟩
    have go : ∀ (Vn Sn : Nat) (H1 : Hp), Pex p H H1 → PotAt H1 p → 1 ≤ Vn → Vn ≤ 5 → Sn ≤ 4 → Vn * Sn ≤ 12 → tCall spRows [] E0 (tCons (tVar 0) (tCons (tVar 1) (tCons (tVar 2) (tCons (tC (.int 2)) tNil)))) (((start NSmall [.ref p]).set 1 (some (.int (Vn : Nat)))).set 2 (some (.int (Sn : Nat)))) H1 Q := by
      intro Vn Sn H1 px pt h1 h2 h3 h4
      exact (ea_cons (ev_var (v := .ref p) rfl) (ea_cons (ev_var (v := .int (Vn : Nat)) rfl) (ea_cons (ev_var (v := .int (Sn : Nat)) rfl) (ea_cons ev_c ea_nil)))) H1 (Ex.refl H1) _ fun H2 e2 => ⟨p, Vn, Sn, rfl, pt.ex e2, h1, h2, h3, h4, fun t H' a o rows out px' => q t H' a o rows out ((px.trans (Pex.of e2)).trans px')⟩
    refine q_asgD (ed_pick3 (tups3 (xs := [.int 5, .int 2]) (ys := [.int 4, .int 3]) (zs := [.int 3, .int 4]) (eu_tup (ea_cons ev_c (ea_cons ev_c ea_nil)) (by decide)) (eu_tup (ea_cons ev_c (ea_cons ev_c ea_nil)) (by decide)) (eu_tup (ea_cons ev_c (ea_cons ev_c ea_nil)) (by decide))) (ev_var rfl) ev_c hp) ?_
    rintro v H1 px pt ⟨a, rfl, ha | ha | ha⟩
    · exact g_two ha (s_retR (go 5 2 H1 px pt (by decide) (by decide) (by decide) (by decide)))
    · exact g_two ha (s_retR (go 4 3 H1 px pt (by decide) (by decide) (by decide) (by decide)))
    · exact g_two ha (s_retR (go 3 4 H1 px pt (by decide) (by decide) (by decide) (by decide)))
end
end LKW

/-! The law's book. -/
namespace LKW
open PySem PySem.Spec PyProof.Rows L2 Evl

def bkF (o od ad st ask nd : Addr) : List (Key × V) := [(.inr "order", .ref o), (.inr "operands", .ref od), (.inr "at", .ref ad), (.inr "stops", .ref st), (.inr "asked", .ref ask), (.inr "need", .ref nd)]
section
variable (o od ad st ask nd : Addr)
theorem kne {s t : Str} (h : (s == t) = false) : ¬ (Sum.inr s : Key) = Sum.inr t := fun z => by
  have := Sum.inr.inj z
  rw [this] at h
  simp at h
theorem bk_o : valV (bkF o od ad st ask nd) (.inr "order") = some (.ref o) := valV_pos rfl
theorem bk_od : valV (bkF o od ad st ask nd) (.inr "operands") = some (.ref od) := (valV_neg (kne (by decide +kernel))).trans (valV_pos rfl)
theorem bk_ad : valV (bkF o od ad st ask nd) (.inr "at") = some (.ref ad) := (valV_neg (kne (by decide +kernel))).trans ((valV_neg (kne (by decide +kernel))).trans (valV_pos rfl))
theorem bk_st : valV (bkF o od ad st ask nd) (.inr "stops") = some (.ref st) := (valV_neg (kne (by decide +kernel))).trans ((valV_neg (kne (by decide +kernel))).trans ((valV_neg (kne (by decide +kernel))).trans (valV_pos rfl)))
theorem bk_ask : valV (bkF o od ad st ask nd) (.inr "asked") = some (.ref ask) := (valV_neg (kne (by decide +kernel))).trans ((valV_neg (kne (by decide +kernel))).trans ((valV_neg (kne (by decide +kernel))).trans ((valV_neg (kne (by decide +kernel))).trans (valV_pos rfl))))
theorem bk_nd : valV (bkF o od ad st ask nd) (.inr "need") = some (.ref nd) := (valV_neg (kne (by decide +kernel))).trans ((valV_neg (kne (by decide +kernel))).trans ((valV_neg (kne (by decide +kernel))).trans ((valV_neg (kne (by decide +kernel))).trans ((valV_neg (kne (by decide +kernel))).trans (valV_pos rfl)))))
end
/-- the seven objects of a book and what they hold -/
structure BkM (H : Hp) (b o od ad st ask nd : Addr) (ov : List V) (ods ads : List (Key × V)) (sv av : List V) (nk : List (Key × V)) : Prop where
  ne : [b, o, od, ad, st, ask, nd].Nodup
  b : H b = some (.dK (bkF o od ad st ask nd))
  o : H o = some (.lst ov)
  od : H od = some (.dK ods)
  ad : H ad = some (.dK ads)
  st : H st = some (.lst sv)
  ask : H ask = some (.lst av)
  nd : H nd = some (.dK nk)
section
variable {K : PySem.W.Frag} {H H' : Hp} {b o od ad st ask nd : Addr} {ov sv av : List V} {ods ads nk : List (Key × V)} {σ : L2.St} {ta : TE}
theorem BkM.ex (m : BkM H b o od ad st ask nd ov ods ads sv av nk) (e : Ex H H') : BkM H' b o od ad st ask nd ov ods ads sv av nk := ⟨m.ne, e _ _ m.b, e _ _ m.o, e _ _ m.od, e _ _ m.ad, e _ _ m.st, e _ _ m.ask, e _ _ m.nd⟩
theorem BkM.setO (m : BkM H b o od ad st ask nd ov ods ads sv av nk) (x : List V) : BkM (upd H o (.lst x)) b o od ad st ask nd x ods ads sv av nk := by
  have h := m.ne
  refine ⟨m.ne, ?_, upd_same, ?_, ?_, ?_, ?_, ?_⟩
  · exact (upd_ne (by intro z; subst z; simp at h)).trans m.b
  · exact (upd_ne (by intro z; subst z; simp at h)).trans m.od
  · exact (upd_ne (by intro z; subst z; simp at h)).trans m.ad
  · exact (upd_ne (by intro z; subst z; simp at h)).trans m.st
  · exact (upd_ne (by intro z; subst z; simp at h)).trans m.ask
  · exact (upd_ne (by intro z; subst z; simp at h)).trans m.nd
theorem BkM.setOd (m : BkM H b o od ad st ask nd ov ods ads sv av nk) (x : List (Key × V)) : BkM (upd H od (.dK x)) b o od ad st ask nd ov x ads sv av nk := by
  have h := m.ne
  refine ⟨m.ne, ?_, ?_, upd_same, ?_, ?_, ?_, ?_⟩
  · exact (upd_ne (by intro z; subst z; simp at h)).trans m.b
  · exact (upd_ne (by intro z; subst z; simp at h)).trans m.o
  · exact (upd_ne (by intro z; subst z; simp at h)).trans m.ad
  · exact (upd_ne (by intro z; subst z; simp at h)).trans m.st
  · exact (upd_ne (by intro z; subst z; simp at h)).trans m.ask
  · exact (upd_ne (by intro z; subst z; simp at h)).trans m.nd
theorem BkM.setAd (m : BkM H b o od ad st ask nd ov ods ads sv av nk) (x : List (Key × V)) : BkM (upd H ad (.dK x)) b o od ad st ask nd ov ods x sv av nk := by
  have h := m.ne
  refine ⟨m.ne, ?_, ?_, ?_, upd_same, ?_, ?_, ?_⟩
  · exact (upd_ne (by intro z; subst z; simp at h)).trans m.b
  · exact (upd_ne (by intro z; subst z; simp at h)).trans m.o
  · exact (upd_ne (by intro z; subst z; simp at h)).trans m.od
  · exact (upd_ne (by intro z; subst z; simp at h)).trans m.st
  · exact (upd_ne (by intro z; subst z; simp at h)).trans m.ask
  · exact (upd_ne (by intro z; subst z; simp at h)).trans m.nd
theorem BkM.setSt (m : BkM H b o od ad st ask nd ov ods ads sv av nk) (x : List V) : BkM (upd H st (.lst x)) b o od ad st ask nd ov ods ads x av nk := by
  have h := m.ne
  refine ⟨m.ne, ?_, ?_, ?_, ?_, upd_same, ?_, ?_⟩
  · exact (upd_ne (by intro z; subst z; simp at h)).trans m.b
  · exact (upd_ne (by intro z; subst z; simp at h)).trans m.o
  · exact (upd_ne (by intro z; subst z; simp at h)).trans m.od
  · exact (upd_ne (by intro z; subst z; simp at h)).trans m.ad
  · exact (upd_ne (by intro z; subst z; simp at h)).trans m.ask
  · exact (upd_ne (by intro z; subst z; simp at h)).trans m.nd
theorem BkM.setAsk (m : BkM H b o od ad st ask nd ov ods ads sv av nk) (x : List V) : BkM (upd H ask (.lst x)) b o od ad st ask nd ov ods ads sv x nk := by
  have h := m.ne
  refine ⟨m.ne, ?_, ?_, ?_, ?_, ?_, upd_same, ?_⟩
  · exact (upd_ne (by intro z; subst z; simp at h)).trans m.b
  · exact (upd_ne (by intro z; subst z; simp at h)).trans m.o
  · exact (upd_ne (by intro z; subst z; simp at h)).trans m.od
  · exact (upd_ne (by intro z; subst z; simp at h)).trans m.ad
  · exact (upd_ne (by intro z; subst z; simp at h)).trans m.st
  · exact (upd_ne (by intro z; subst z; simp at h)).trans m.nd
theorem BkM.setNd (m : BkM H b o od ad st ask nd ov ods ads sv av nk) (x : List (Key × V)) : BkM (upd H nd (.dK x)) b o od ad st ask nd ov ods ads sv av x := by
  have h := m.ne
  refine ⟨m.ne, ?_, ?_, ?_, ?_, ?_, ?_, upd_same⟩
  · exact (upd_ne (by intro z; subst z; simp at h)).trans m.b
  · exact (upd_ne (by intro z; subst z; simp at h)).trans m.o
  · exact (upd_ne (by intro z; subst z; simp at h)).trans m.od
  · exact (upd_ne (by intro z; subst z; simp at h)).trans m.ad
  · exact (upd_ne (by intro z; subst z; simp at h)).trans m.st
  · exact (upd_ne (by intro z; subst z; simp at h)).trans m.ask
theorem ev_bo (m : BkM H b o od ad st ask nd ov ods ads sv av nk) (h : Ev ta σ H (.ref b)) : Ev (tDGet ta (tC (.str "order"))) σ H (.ref o) := ev_dgetS h ev_c (.inl m.b) (bk_o ..)
theorem ev_bod (m : BkM H b o od ad st ask nd ov ods ads sv av nk) (h : Ev ta σ H (.ref b)) : Ev (tDGet ta (tC (.str "operands"))) σ H (.ref od) := ev_dgetS h ev_c (.inl m.b) (bk_od ..)
theorem ev_bad (m : BkM H b o od ad st ask nd ov ods ads sv av nk) (h : Ev ta σ H (.ref b)) : Ev (tDGet ta (tC (.str "at"))) σ H (.ref ad) := ev_dgetS h ev_c (.inl m.b) (bk_ad ..)
theorem ev_bst (m : BkM H b o od ad st ask nd ov ods ads sv av nk) (h : Ev ta σ H (.ref b)) : Ev (tDGet ta (tC (.str "stops"))) σ H (.ref st) := ev_dgetS h ev_c (.inl m.b) (bk_st ..)
theorem ev_bask (m : BkM H b o od ad st ask nd ov ods ads sv av nk) (h : Ev ta σ H (.ref b)) : Ev (tDGet ta (tC (.str "asked"))) σ H (.ref ask) := ev_dgetS h ev_c (.inl m.b) (bk_ask ..)
theorem ev_bnd (m : BkM H b o od ad st ask nd ov ods ads sv av nk) (h : Ev ta σ H (.ref b)) : Ev (tDGet ta (tC (.str "need"))) σ H (.ref nd) := ev_dgetS h ev_c (.inl m.b) (bk_nd ..)
end
/-- what the book says of the rows so far -/
structure BkC (H : Hp) (rows : List LK.Row) (ods : List (Key × V)) (ts : List Addr) : Prop where
  odv : ∀ v ∈ LK.order rows, ∃ u, valV ods (.inl v) = some u ∧ OpsV (LK.opsOf rows v) u H
  len : ts.length = (LK.askedL rows).length
  asks : ∀ (i : Nat) (t : Addr) (l : List Int), ts[i]? = some t → (LK.askedL rows)[i]? = some l → TupI H t l
  al : ∀ l ∈ LK.askedL rows, l.length ≤ 1000
theorem BkC.ex {H H' : Hp} {rows : List LK.Row} {ods : List (Key × V)} {ts : List Addr} (h : BkC H rows ods ts) (e : Ex H H') : BkC H' rows ods ts :=
  ⟨fun v hv => let ⟨u, h1, h2⟩ := h.odv v hv; ⟨u, h1, h2.ex e⟩, h.len, fun i t l h1 h2 => (h.asks i t l h1 h2).ex e, h.al⟩
theorem opsOf_front {a b : List LK.Row} {v : Int} (h : v ∈ LK.order a) : LK.opsOf (a ++ b) v = LK.opsOf a v := by
  unfold LK.opsOf
  rw [LK.plOf_append h, List.getElem?_append_left (LK.plOf_lt h)]
theorem opsOf_new {a : List LK.Row} {r : LK.Row} {v : Int} (h : v ∉ LK.order a) (hv : r.val = some v) : LK.opsOf (a ++ [r]) v = r.ops := by
  unfold LK.opsOf
  rw [LK.plOf_new h hv, List.getElem?_append_right (Nat.le_refl _)]
  simp
theorem BkC.nil {H : Hp} : BkC H [] [] [] := ⟨fun v hv => by simp [LK.order, LK.places, LK.placesF] at hv, rfl, fun i t l h => by simp at h, fun l h => by simp [LK.askedL] at h⟩
/-- a row without a value or a stop -/
theorem BkC.use {H : Hp} {rows : List LK.Row} {r : LK.Row} {ods : List (Key × V)} {ts : List Addr} (h : BkC H rows ods ts) (h1 : r.val = none) (h2 : r.ask = none) : BkC H (rows ++ [r]) ods ts := by
  have eo : LK.order (rows ++ [r]) = LK.order rows := by rw [LK.order_snoc, h1]; simp
  have ea : LK.askedL (rows ++ [r]) = LK.askedL rows := by rw [LK.askedL_snoc, h2]; simp
  refine ⟨fun v hv => ?_, by rw [ea]; exact h.len, by rw [ea]; exact h.asks, by rw [ea]; exact h.al⟩
  rw [eo] at hv
  rw [opsOf_front hv]
  exact h.odv v hv
theorem BkC.stop {H : Hp} {rows : List LK.Row} {l : List Int} {t : Addr} {ods : List (Key × V)} {ts : List Addr} (h : BkC H rows ods ts) (ht : TupI H t l) (hl : l.length ≤ 1000) : BkC H (rows ++ [.stop l]) ods (ts ++ [t]) := by
  have eo : LK.order (rows ++ [.stop l]) = LK.order rows := by rw [LK.order_snoc]; simp [LK.Row.val]
  have ea : LK.askedL (rows ++ [.stop l]) = LK.askedL rows ++ [l] := by rw [LK.askedL_snoc]; rfl
  refine ⟨fun v hv => ?_, by rw [ea, List.length_append, List.length_append, h.len]; rfl, ?_, fun l' hl' => by
    rw [ea] at hl'
    rcases List.mem_append.mp hl' with z | z
    · exact h.al l' z
    · rw [List.mem_singleton.mp z]; exact hl⟩
  · rw [eo] at hv
    rw [opsOf_front hv]
    exact h.odv v hv
  · rw [ea]
    intro i t' l' h1 h2
    rcases Nat.lt_or_ge i ts.length with lt | ge
    · rw [List.getElem?_append_left lt] at h1
      rw [List.getElem?_append_left (by rw [← h.len]; exact lt)] at h2
      exact h.asks i t' l' h1 h2
    · rw [List.getElem?_append_right ge] at h1
      rw [List.getElem?_append_right (by rw [← h.len]; exact ge), ← h.len] at h2
      have e : i - ts.length = 0 := by
        rcases Nat.eq_zero_or_pos (i - ts.length) with z | z
        · exact z
        · rw [List.getElem?_eq_none (by simp; omega)] at h1; cases h1
      rw [e] at h1 h2
      simp at h1 h2
      subst h1 h2
      exact ht
theorem BkC.val {H : Hp} {rows : List LK.Row} {r : LK.Row} {v : Int} {u : V} {ods : List (Key × V)} {ts : List Addr} (h : BkC H rows ods ts) (hv : r.val = some v) (h2 : r.ask = none) (hn : v ∉ LK.order rows) (hu : OpsV r.ops u H) : BkC H (rows ++ [r]) (putK ods (.inl v) u) ts := by
  have eo : LK.order (rows ++ [r]) = LK.order rows ++ [v] := by rw [LK.order_snoc, hv]; rfl
  have ea : LK.askedL (rows ++ [r]) = LK.askedL rows := by rw [LK.askedL_snoc, h2]; simp
  refine ⟨fun x hx => ?_, by rw [ea]; exact h.len, by rw [ea]; exact h.asks, by rw [ea]; exact h.al⟩
  rw [eo] at hx
  rcases List.mem_append.mp hx with hx | hx
  · rw [opsOf_front hx]
    obtain ⟨w, h1, h2⟩ := h.odv x hx
    refine ⟨w, ?_, h2⟩
    rw [valV_put, if_neg (fun z => hn (by rw [← Sum.inl.inj z]; exact hx))]
    exact h1
  · rcases List.mem_singleton.mp hx with rfl
    rw [opsOf_new hn hv]
    exact ⟨u, by rw [valV_put, if_pos rfl], hu⟩
theorem places_le (rows : List LK.Row) : (LK.places rows).length ≤ rows.length := by
  refine LK.snoc_induct (P := fun rows => (LK.places rows).length ≤ rows.length) (by simp [LK.places, LK.placesF]) (fun l a ih => ?_) rows
  rw [LK.places_snoc, List.length_append, List.length_append]
  have : (LK.at1 a l.length).length ≤ 1 := by
    unfold LK.at1
    cases a.val <;> simp
  simp
  omega
def BookAt (H : Hp) (b : Addr) (rows : List LK.Row) (out : List Int) : Prop := ∃ o od ad st ask nd ods nk ts, BkM H b o od ad st ask nd ((LK.order rows).map V.int) ods (kvP (LK.places rows)) ((LK.stops rows).map fun n => V.int (n : Nat)) (ts.map V.ref) nk ∧
  BkC H rows ods ts ∧ NeedIs nk (LK.needAll rows out) ∧ Good rows out
theorem BookAt.ex {H H' : Hp} {b : Addr} {rows : List LK.Row} {out : List Int} (h : BookAt H b rows out) (e : Ex H H') : BookAt H' b rows out :=
  let ⟨o, od, ad, st, ask, nd, ods, nk, ts, m, c, n, g⟩ := h; ⟨o, od, ad, st, ask, nd, ods, nk, ts, m.ex e, c.ex e, n, g⟩
def spBook : Sp := fun vs H Q _ => ∃ (a o : Addr) (rows : List LK.Row) (out : List Int), vs = [.ref a, .ref o] ∧ RowsAt H a rows ∧ H o = some (.lst (out.map V.int)) ∧ Good rows out ∧ (∀ r ∈ rows, RowFits r) ∧ ∀ b H', H b = none → Ex H H' → BookAt H' b rows out → Q (.ref b) H'
theorem bk_merge (o od ad st ask nd : Addr) : mergeK [] (bkF o od ad st ask nd) = bkF o od ad st ask nd := by
  have n1 : valV ([(.inr "order", V.ref o)] : List (Key × V)) (.inr "operands") = none := by
    rw [valV_neg (kne (by decide +kernel))]; rfl
  have n2 : valV ([(.inr "order", V.ref o), (.inr "operands", .ref od)] : List (Key × V)) (.inr "at") = none := by
    rw [valV_neg (kne (by decide +kernel)), valV_neg (kne (by decide +kernel))]; rfl
  have n3 : valV ([(.inr "order", V.ref o), (.inr "operands", .ref od), (.inr "at", .ref ad)] : List (Key × V)) (.inr "stops") = none := by
    rw [valV_neg (kne (by decide +kernel)), valV_neg (kne (by decide +kernel)), valV_neg (kne (by decide +kernel))]; rfl
  have n4 : valV ([(.inr "order", V.ref o), (.inr "operands", .ref od), (.inr "at", .ref ad), (.inr "stops", .ref st)] : List (Key × V)) (.inr "asked") = none := by
    rw [valV_neg (kne (by decide +kernel)), valV_neg (kne (by decide +kernel)), valV_neg (kne (by decide +kernel)), valV_neg (kne (by decide +kernel))]; rfl
  have n5 : valV ([(.inr "order", V.ref o), (.inr "operands", .ref od), (.inr "at", .ref ad), (.inr "stops", .ref st), (.inr "asked", .ref ask)] : List (Key × V)) (.inr "need") = none := by
    rw [valV_neg (kne (by decide +kernel)), valV_neg (kne (by decide +kernel)), valV_neg (kne (by decide +kernel)), valV_neg (kne (by decide +kernel)), valV_neg (kne (by decide +kernel))]; rfl
  show putK (putK (putK (putK (putK (putK ([] : List (Key × V)) (Sum.inr "order") (.ref o)) (Sum.inr "operands") (.ref od)) (Sum.inr "at") (.ref ad)) (Sum.inr "stops") (.ref st)) (Sum.inr "asked") (.ref ask)) (Sum.inr "need") (.ref nd) = _
  rw [putK_new (kvs := []) _ rfl]
  simp only [List.nil_append]
  rw [putK_new _ n1]
  simp only [List.cons_append, List.nil_append]
  rw [putK_new _ n2]
  simp only [List.cons_append, List.nil_append]
  rw [putK_new _ n3]
  simp only [List.cons_append, List.nil_append]
  rw [putK_new _ n4]
  simp only [List.cons_append, List.nil_append]
  rw [putK_new _ n5]
  rfl
theorem fresh_ne {H : Hp} {p q : Addr} {o : HO} (h : (upd H q o) p = none) : q ≠ p ∧ H p = none := by
  have n : p ≠ q := fun z => by rw [z, upd_same] at h; cases h
  exact ⟨Ne.symm n, by rw [upd_ne n] at h; exact h⟩
section
variable {K : PySem.W.Frag} {H H' : Hp} {σ : L2.St} {ta tb te : TE} {D : Ends} {tz : TS} {v : V} {g : TG}
theorem q_appV {l : Addr} {xs : List V} (hl : H l = some (.lst xs)) (ha : Ev ta σ H (.ref l)) (h : Ev te σ H v) (hz : xs.length < 100000) (k : ∀ H1, Ex H H1 → tz D σ (upd H1 l (.lst (xs ++ [v])))) :
    tSeq (tDrop (tBM K "list" rAppend ta (tCons te tNil))) tz D σ H := s_app (D := { D with nx := tz D }) hl ha h hz k
theorem eu_cat1 {p : Addr} {xs ys : List V} (ha : Ev ta σ H (.ref p)) (hx : H p = some (.tup xs)) (hb : EvU tb σ H ys) (h1 : xs ≠ []) (h2 : ys ≠ []) (hz : xs.length + ys.length ≤ 100000) : EvU (tOp (rCatT K) ta tb) σ H (xs ++ ys) := fun H1 e Q q =>
  ha H1 e _ fun H2 e2 => hb H2 (e.trans e2) _ fun u H3 hu e3 h3 => ⟨p, u, xs, ys, rfl, rfl, st_of (((e.trans e2).trans e3) _ _ hx), st_of h3, h1, sz_of hz, fun z => absurd z h2, fun _ w hw => q w _ (fresh_back (e2.trans e3) hw) ((e2.trans e3).trans (Ex.new hw)) upd_same⟩
theorem ev_ixU {xs : List V} {i : Int} (ha : EvU ta σ H xs) (hi : atI xs i = some v) : Ev (tOp (rIxT K) ta (tC (.int i))) σ H v := fun H1 e Q q =>
  ha H1 e _ fun p H2 _ e2 h2 => ⟨p, xs, i, v, rfl, rfl, st_of h2, hi, q H2 e2⟩
theorem s_asgRU {xs : List V} (h : EvU te σ H xs) (k : ∀ p H1, H p = none → Ex H H1 → H1 p = some (.tup xs) → g (.ref p) σ H1 D.nx) : tAsg te g D σ H := h H (Ex.refl H) _ fun p H1 hp e h1 => k p H1 hp e h1
theorem q_asgRaw (h : te σ H fun x H1 => g x σ H1 (tz D)) : tSeq (tAsg te g) tz D σ H := h
/-- d[k] = v, a target of several -/
theorem g_put {d : Addr} {i : Int} {kvs : List (Key × V)} {Q : L2.St → Hp → Prop} (hd : Ev ta σ H (.ref d)) (hy : Ev tb σ H (.int i)) (ho : H d = some (.dK kvs)) (hl : kvs.length < 100000) (k : ∀ H1, Ex H H1 → Q σ (upd H1 d (.dK (putK kvs (.inl i) v)))) : gSub ta tb rSetD v σ H Q :=
  hd H (Ex.refl H) _ fun H1 e1 => hy H1 e1 _ fun H2 e2 => ⟨d, _, rfl, DPut.k (k := .inl i) ((e1.trans e2) _ _ ho) (sz_lt hl), k H2 (e1.trans e2)⟩
theorem g_put2 {p : Addr} {x y : V} {t1 t2 t3 t4 : TE} {Q : L2.St → Hp → Prop} (hp : H p = some (.tup [x, y])) (h : gSub t1 t2 rSetD x σ H fun σ' H' => ∃ v r, [y] = v :: r ∧ gSub t3 t4 rSetD v σ' H' fun σ2 H2 => r = [] ∧ Q σ2 H2) : gTup K 2 (gCons (gSub t1 t2 rSetD) (gCons (gSub t3 t4 rSetD) gNil)) (.ref p) σ H Q :=
  ⟨p, [x, y], rfl, st_of hp, rfl, x, [y], rfl, h⟩
end
section
variable {P : Program} {w : World} {K : PySem.W.Frag} {mg : Str → Option Value} {base : Heap} {CN CS : Addr}
theorem ok_Book {f : Addr} {fd : FuncData} (F : Fun K "_law_book" "_law_book" sBook f fd) (T : Txt K mg CN CS)  : FnOk P w K mg base CX0 1 f fd PBook (spBook) := by
  refine F.ok scBook (fun vs H Q E h => ?_) (fun cdv A outer s H vs Q E hr h => ?_)
  · obtain ⟨a, oo, rows, out, rfl, hR, hoo, hg, hfit, q⟩ := h
    rfl
  · obtain ⟨a, oo, rows, out, rfl, hR, hoo, hg, hfit, q⟩ := h
    have hu := hu_of hr
    refine ⟨_, (pss_cons (ps_set (i := 2) scBook.nd rfl (.inl rfl) (pe_disp (pps_cons pe_str (pe_lst pa_nil) (pps_cons pe_str pe_dnewK (pps_cons pe_str pe_dnewK (pps_cons pe_str (pe_lst pa_nil) (pps_cons pe_str (pe_lst pa_nil) (pps_cons pe_str pe_dnewK pps_nil)))))) (by rfl) (by rfl) (fun z => by cases z) (by decide)))
      (pss_cons (ps_for PassesOwn.never rfl (pi_enum (by rfl) T.m_enumerate (pa_cons (pv 0) pa_nil)) (pg_tup rfl (pgs_cons (pg_name (i := 3) scBook.nd rfl (.inl rfl)) (pgs_cons (pg_name (i := 4) scBook.nd rfl (.inl rfl)) pgs_nil))) (pss_cons (ps_if (pt_cmpR op_in_seq (pe_ix ix_tup (pv 4) pe_int (fun _ _ => rfl)) (pe_tup (pa_cons pe_str (pa_cons pe_str pa_nil))) (by rfl)) (pss_cons (ps_expr (pe_bm PySem.F.plainAttrs_list PySem.F.slot_list_append PySem.F.type_list_append mt_append (pe_dget hu (pv 2) pe_str (fun _ _ => rfl)) (pa_cons (pe_ix ix_tup (pv 4) pe_int (fun _ _ => rfl)) pa_nil)))
      (pss_one (ps_asg (pe_tup (pa_cons (pv 3) (pa_cons (pe_ix ix_tup (pe_op op_catT (pv 4) (pe_tup (pa_cons pe_non pa_nil))) pe_int (fun _ _ => rfl)) pa_nil))) (pg_tup rfl (pgs_cons (pg_sub (pe_dget hu (pv 2) pe_str (fun _ _ => rfl)) (pe_ix ix_tup (pv 4) pe_int (fun _ _ => rfl)) (set_dict hu)) (pgs_cons (pg_sub (pe_dget hu (pv 2) pe_str (fun _ _ => rfl)) (pe_ix ix_tup (pv 4) pe_int (fun _ _ => rfl)) (set_dict hu)) pgs_nil)))))) pss_nil)
      (pss_cons (ps_if (pt_cmpR op_eq (pe_ix ix_tup (pv 4) pe_int (fun _ _ => rfl)) pe_str (nomark _)) (pss_cons (ps_expr (pe_bm PySem.F.plainAttrs_list PySem.F.slot_list_append PySem.F.type_list_append mt_append (pe_dget hu (pv 2) pe_str (fun _ _ => rfl)) (pa_cons (pv 3) pa_nil)))
      (pss_one (ps_expr (pe_bm PySem.F.plainAttrs_list PySem.F.slot_list_append PySem.F.type_list_append mt_append (pe_dget hu (pv 2) pe_str (fun _ _ => rfl)) (pa_cons (pe_ix ix_tup (pv 4) pe_int (fun _ _ => rfl)) pa_nil))))) pss_nil)
      (pss_one (ps_if (pt_cmpR op_in_seq (pe_ix ix_tup (pv 4) pe_int (fun _ _ => rfl)) (pe_tup (pa_cons pe_str (pa_cons pe_str pa_nil))) (by rfl)) (pss_one (ps_for PassesOwn.never rfl (pi_tup (pe_ix ix_tup (pv 4) (pe_un un_neg pe_int) (fun _ _ => rfl))) (pg_name (i := 5) scBook.nd rfl (.inl rfl)) (pss_one (ps_dput hu (pe_dget hu (pv 2) pe_str (fun _ _ => rfl)) (pv 5) (pv 3) rfl)))) pss_nil)))))
      (pss_cons (ps_for PassesOwn.never rfl (pi_list (pv 1)) (pg_name (i := 5) scBook.nd rfl (.inl rfl)) (pss_one (ps_dput hu (pe_dget hu (pv 2) pe_str (fun _ _ => rfl)) (pv 5) (pe_callB call_len_seq (by rfl) T.m_len (by decide +kernel) (pa_cons (pv 0) pa_nil)) rfl)))
      (pss_one (ps_ret (pv 2)))))), ?_⟩
    obtain ⟨as, ha, hby⟩ := hR
    have hlen := hby.1
    refine q_asgRaw fun b hb => ⟨sz_of (Nat.zero_le _), fun o ho1 od hod1 ad had1 => ⟨sz_of (Nat.zero_le _), fun st hst1 => ⟨sz_of (Nat.zero_le _), fun ask hask1 nd hnd1 => ⟨?_, bkF o od ad st ask nd, rfl, by show 6 ≤ 15; decide, ?_⟩⟩⟩⟩
    · exact Ex.new hnd1 _ _ (Ex.new hask1 _ _ (Ex.new hst1 _ _ (Ex.new had1 _ _ (Ex.new hod1 _ _ (Ex.new ho1 _ _ upd_same)))))
    rw [bk_merge]
    have E6 := (Ex.new hb).trans ((Ex.new ho1).trans ((Ex.new hod1).trans ((Ex.new had1).trans ((Ex.new hst1).trans ((Ex.new hask1).trans (Ex.new (o := .dK []) hnd1))))))
    have g1 := fresh_ne ho1
    have g2 := fresh_ne hod1
    have g3 := fresh_ne had1
    have g4 := fresh_ne hst1
    have g5 := fresh_ne hask1
    have g6 := fresh_ne hnd1
    have g22 := fresh_ne g2.2
    have g32 := fresh_ne g3.2
    have g33 := fresh_ne g32.2
    have g42 := fresh_ne g4.2
    have g43 := fresh_ne g42.2
    have g44 := fresh_ne g43.2
    have g52 := fresh_ne g5.2
    have g53 := fresh_ne g52.2
    have g54 := fresh_ne g53.2
    have g55 := fresh_ne g54.2
    have g62 := fresh_ne g6.2
    have g63 := fresh_ne g62.2
    have g64 := fresh_ne g63.2
    have g65 := fresh_ne g64.2
    have g66 := fresh_ne g65.2
    have nn : [b, o, od, ad, st, ask, nd].Nodup := by
      simp only [List.nodup_cons, List.mem_cons, List.not_mem_nil, not_or, not_false_eq_true, and_true, or_false]
      exact ⟨⟨g1.1, g22.1, g33.1, g44.1, g55.1, g66.1⟩, ⟨g2.1, g32.1, g43.1, g54.1, g65.1⟩, ⟨g3.1, g42.1, g53.1, g64.1⟩, ⟨g4.1, g52.1, g63.1⟩, ⟨g5.1, g62.1⟩, g6.1, trivial, List.nodup_nil⟩
    have b0 := hb
    have o0 := g1.2
    have od0 := g22.2
    have ad0 := g33.2
    have st0 := g44.2
    have ask0 := g55.2
    have nd0 := g66.2
    have m0 : BkM (upd (upd (upd (upd (upd (upd (upd (upd H b (.dK [])) o (.lst [])) od (.dK [])) ad (.dK [])) st (.lst [])) ask (.lst [])) nd (.dK [])) b (.dK (bkF o od ad st ask nd))) b o od ad st ask nd [] [] [] [] [] [] := by
      refine ⟨nn, upd_same, ?_, ?_, ?_, ?_, ?_, ?_⟩
      · exact (upd_ne (Ne.symm g1.1)).trans (Ex.new hnd1 _ _ (Ex.new hask1 _ _ (Ex.new hst1 _ _ (Ex.new had1 _ _ (Ex.new hod1 _ _ upd_same)))))
      · exact (upd_ne (Ne.symm g22.1)).trans (Ex.new hnd1 _ _ (Ex.new hask1 _ _ (Ex.new hst1 _ _ (Ex.new had1 _ _ upd_same))))
      · exact (upd_ne (Ne.symm g33.1)).trans (Ex.new hnd1 _ _ (Ex.new hask1 _ _ (Ex.new hst1 _ _ upd_same)))
      · exact (upd_ne (Ne.symm g44.1)).trans (Ex.new hnd1 _ _ (Ex.new hask1 _ _ upd_same))
      · exact (upd_ne (Ne.symm g55.1)).trans (Ex.new hnd1 _ _ upd_same)
      · exact (upd_ne (Ne.symm g66.1)).trans upd_same
    have ex0 := E6.mut (o := .dK (bkF o od ad st ask nd)) b0
    generalize upd (upd (upd (upd (upd (upd (upd (upd H b (.dK [])) o (.lst [])) od (.dK [])) ad (.dK [])) st (.lst [])) ask (.lst [])) nd (.dK [])) b (.dK (bkF o od ad st ask nd)) = H1 at m0 ex0 ⊢
    clear E6 g1 g2 g3 g4 g5 g6 g22 g32 g33 g42 g43 g44 g52 g53 g54 g55 g62 g63 g64 g65 g66 hb ho1 hod1 had1 hst1 hask1 hnd1
    refine q_forE (ev_var rfl) (sq_of (ex0 a _ ha)) (fun i σ' H' => ∃ y3 y4 y5 ods nk ts, σ' = [some (.ref a), some (.ref oo), some (.ref b), y3, y4, y5] ∧ Ex H H' ∧
      BkM H' b o od ad st ask nd ((LK.order (rows.take i)).map V.int) ods (kvP (LK.places (rows.take i))) ((LK.stops (rows.take i)).map fun n => V.int (n : Nat)) (ts.map V.ref) nk ∧ BkC H (rows.take i) ods ts ∧ NeedIs nk (LK.needR (rows.take i)) ∧ ods.length ≤ i ∧ nk.length ≤ 3 * i)
      (fun H2 e2 => ⟨none, none, none, [], [], [], rfl, ex0.trans e2, (by exact m0.ex e2), BkC.nil, fun v => rfl, Nat.le_refl _, Nat.le_refl _⟩) (fun i σ' H' _ ⟨_, _, _, _, _, _, _, ex, _⟩ => sq_of (ex a _ ha)) ?_ ?_
    · rintro i x σ' H' Tp H2 hx ⟨y3, y4, y5, ods, nk, ts, rfl, ex, m, c, hnk, lo, ln⟩ hT eT h2
      obtain ⟨rb, r, rfl, hb', hr', hrow⟩ := hby.item hx
      have hi : i < rows.length := (List.getElem?_eq_some_iff.mp hr').1
      have hok := hg.valid i r hr'
      have hi20 := hg.rl
      have tl : (rows.take i).length = i := by rw [List.length_take]; omega
      have tk := take_row hr'
      refine g_two h2 ?_
      have ex2 := ex.trans eT
      have m2 := m.ex eT
      -- a value's row
      have val : ∀ (v : Int) (xs : List V) (u : V) (D : Ends) (Hs : Hp), H rb = some (.tup xs) → xs ≠ [] → xs.length ≤ 10 → atI xs 1 = some (.int v) → atI (xs ++ [V.non]) 2 = some u → r.val = some v → r.ask = none → OpsV r.ops u H → Ex H2 Hs →
          (∀ Hz ods', Ex H Hz → BkM Hz b o od ad st ask nd ((LK.order (rows.take (i + 1))).map V.int) ods' (kvP (LK.places (rows.take (i + 1)))) ((LK.stops (rows.take (i + 1))).map fun n => V.int (n : Nat)) (ts.map V.ref) nk → BkC H (rows.take (i + 1)) ods' ts → ods'.length ≤ i + 1 → D.nx [some (.ref a), some (.ref oo), some (.ref b), some (.int (i : Nat)), some (.ref rb), y5] Hz) →
          (tSeq (tDrop (tBM K "list" rAppend (tDGet (tVar 2) (tC (.str "order"))) (tCons (tOp (rIxT K) (tVar 4) (tC (.int 1))) tNil))) (tAsg (tTup (tCons (tVar 3) (tCons (tOp (rIxT K) (tOp (rCatT K) (tVar 4) (tTup (tCons (tC .non) tNil))) (tC (.int 2))) tNil))) (gTup K 2 (gCons (gSub (tDGet (tVar 2) (tC (.str "at"))) (tOp (rIxT K) (tVar 4) (tC (.int 1))) rSetD) (gCons (gSub (tDGet (tVar 2) (tC (.str "operands"))) (tOp (rIxT K) (tVar 4) (tC (.int 1))) rSetD) gNil))))) D [some (.ref a), some (.ref oo), some (.ref b), some (.int (i : Nat)), some (.ref rb), y5] Hs := by
        intro v xs u D Hs hxs xn xl x1 x2 rv ra ru eS k
        have mS := m2.ex eS
        have exS := ex2.trans eS
        have nv := (hok.val rv).2
        have eo : LK.order (rows.take (i + 1)) = LK.order (rows.take i) ++ [v] := by rw [tk, LK.order_snoc, rv]; rfl
        have ep : LK.places (rows.take (i + 1)) = LK.places (rows.take i) ++ [(v, i)] := by rw [tk, LK.places_snoc, tl]; unfold LK.at1; rw [rv]
        have es : LK.stops (rows.take (i + 1)) = LK.stops (rows.take i) := by rw [tk, LK.stops_snoc, ra]; simp
        have pl := places_le (rows.take i)
        have ol : (LK.order (rows.take i)).length ≤ i := by unfold LK.order; rw [List.length_map]; omega
        refine q_appV mS.o (ev_bo mS (ev_var rfl)) (v := .int v) (ev_it rfl (exS _ _ hxs) x1) (by rw [List.length_map]; omega) fun H3 e3 => ?_
        have m3 := (mS.ex e3).setO ((LK.order (rows.take i)).map V.int ++ [.int v])
        have ex3 := (exS.trans e3).mut (o := .lst ((LK.order (rows.take i)).map V.int ++ [.int v])) o0
        generalize upd H3 o (.lst ((LK.order (rows.take i)).map V.int ++ [.int v])) = H4 at m3 ex3 ⊢
        refine s_asgRU (xs := [.int (i : Nat), u]) (eu_tup (ea_cons (ev_var rfl) (ea_cons (ev_ixU (eu_cat1 (ev_var rfl) (ex3 _ _ hxs) (eu_tup (vs := [.non]) (ea_cons ev_c ea_nil) (by decide)) xn (by simp) (by simp; omega)) x2) ea_nil)) (show 2 ≤ 100000 by decide)) fun t H5 ht e5 h5 => ?_
        refine g_put2 h5 ?_
        have m5 := m3.ex e5
        have ex5 := ex3.trans e5
        refine g_put (ev_bad m5 (ev_var rfl)) (ev_it rfl (ex5 _ _ hxs) x1) m5.ad (by rw [kvP_len]; omega) fun H6 e6 => ?_
        have m6 := (m5.ex e6).setAd (putK (kvP (LK.places (rows.take i))) (.inl v) (.int (i : Nat)))
        have ex6 := (ex5.trans e6).mut (o := .dK (putK (kvP (LK.places (rows.take i))) (.inl v) (.int (i : Nat)))) ad0
        generalize upd H6 ad (.dK (putK (kvP (LK.places (rows.take i))) (.inl v) (.int (i : Nat)))) = H7 at m6 ex6 ⊢
        refine ⟨u, [], rfl, g_put (ev_bod m6 (ev_var rfl)) (ev_it rfl (ex6 _ _ hxs) x1) m6.od (by omega) fun H8 e8 => ⟨rfl, ?_⟩⟩
        have m8 := (m6.ex e8).setOd (putK ods (.inl v) u)
        have ex8 := (ex6.trans e8).mut (o := .dK (putK ods (.inl v) u)) od0
        refine k _ _ ex8 ?_ (by rw [tk]; exact c.val rv ra nv ru) (by have := length_putK ods (.inl v) u; omega)
        rw [eo, ep, es, List.map_append, ← kvP_snoc (show v ∉ (LK.places (rows.take i)).map (·.1) from nv)]
        exact m8
      -- the needs
      have need : ∀ (t : Addr) (l : List Int) (ods' : List (Key × V)) (ts' : List Addr) (D : Ends) (Hs : Hp) (tl' : TE), Ev tl' [some (.ref a), some (.ref oo), some (.ref b), some (.int (i : Nat)), some (.ref rb), y5] Hs (.ref t) → TupI H t l → l.length ≤ 3 → r.needs = l → Ex H Hs →
          BkM Hs b o od ad st ask nd ((LK.order (rows.take (i + 1))).map V.int) ods' (kvP (LK.places (rows.take (i + 1)))) ((LK.stops (rows.take (i + 1))).map fun n => V.int (n : Nat)) (ts'.map V.ref) nk →
          (∀ Hz nk' y5', Ex H Hz → BkM Hz b o od ad st ask nd ((LK.order (rows.take (i + 1))).map V.int) ods' (kvP (LK.places (rows.take (i + 1)))) ((LK.stops (rows.take (i + 1))).map fun n => V.int (n : Nat)) (ts'.map V.ref) nk' → NeedIs nk' (LK.needR (rows.take (i + 1))) → nk'.length ≤ 3 * (i + 1) → D.nx [some (.ref a), some (.ref oo), some (.ref b), some (.int (i : Nat)), some (.ref rb), y5'] Hz) →
          tFor (iTup K tl') (gName 5) (sDPut (tDGet (tVar 2) (tC (.str "need"))) (tVar 5) (tVar 3)) D [some (.ref a), some (.ref oo), some (.ref b), some (.int (i : Nat)), some (.ref rb), y5] Hs := by
        intro t l ods' ts' D Hs tl' ht htl l3 rl exS mS k
        refine s_forT ht (htl.ex exS).sq (fun j σ' H' => ∃ y5' nk', σ' = [some (.ref a), some (.ref oo), some (.ref b), some (.int (i : Nat)), some (.ref rb), y5'] ∧ Ex H H' ∧ BkM H' b o od ad st ask nd ((LK.order (rows.take (i + 1))).map V.int) ods' (kvP (LK.places (rows.take (i + 1)))) ((LK.stops (rows.take (i + 1))).map fun n => V.int (n : Nat)) (ts'.map V.ref) nk' ∧
          NeedIs nk' (fun x => if x ∈ l.take j then some i else LK.needR (rows.take i) x) ∧ nk'.length ≤ 3 * i + j) ?_ ?_ ?_ ?_
        · intro H3 e3
          exact ⟨_, nk, rfl, exS.trans e3, mS.ex e3, hnk.congr fun x => by simp, by omega⟩
        · rintro j σ' H' _ ⟨_, _, _, ex', _⟩
          exact (htl.ex ex').sq
        · rintro j x σ' H' hx ⟨y5', nk', rfl, ex', m', hnk', ln'⟩
          rw [List.getElem?_map] at hx
          cases ev : l[j]? with
          | none => rw [ev] at hx; cases hx
          | some v =>
            rw [ev] at hx
            cases hx
            have hj : j < l.length := (List.getElem?_eq_some_iff.mp ev).1
            refine s_dput (ev_var rfl) (ev_bnd m' (ev_var rfl)) (ev_var rfl) m'.nd (by omega) fun H3 e3 => ⟨_, _, rfl, Ex.mut (ex'.trans e3) nd0, (m'.ex e3).setNd _, (need_put hnk' v i).congr fun x => ?_, ?_⟩
            · rw [take_row ev]
              simp only [List.mem_append, List.mem_singleton]
              by_cases q1 : x = v
              · simp [q1]
              · simp [q1]
            · have := length_putK nk' (.inl v) (V.int (i : Nat))
              omega
        · rintro σ' H' ⟨y5', nk', rfl, ex', m', hnk', ln'⟩
          rw [List.length_map] at hnk' ln'
          refine k H' nk' y5' ex' m' (hnk'.congr fun x => ?_) (by omega)
          rw [List.take_length, tk, LK.needR_snoc, tl, rl]
      have T1 : ∀ (k x y : Str) (xs : List V) (bb : Bool) (Hs : Hp), H rb = some (.tup xs) → atI xs 0 = some (.str k) → inV (.str k) [.str x, .str y] = bb → Ex H Hs → ∀ z, EvT (tTest (tOp (rIn K false) (tOp (rIxT K) (tVar 4) (tC (.int 0))) (tTup (tCons (tC (.str x)) (tCons (tC (.str y)) tNil))))) [some (.ref a), some (.ref oo), some (.ref b), some (.int (i : Nat)), some (.ref rb), z] Hs bb := by
        intro k x y xs bb Hs h1 h2 h3 e z
        rw [← h3]
        exact et_test (ev_inU (ev_it rfl (e _ _ h1) h2) (eu_tup (vs := [.str x, .str y]) (ea_cons ev_c (ea_cons ev_c ea_nil)) (show 2 ≤ 100000 by decide)) rfl rfl)
      cases r with
      | leaf v =>
        refine q_when (b := true) (T1 "leaf" _ _ _ _ _ hrow rfl (by decide +kernel) ex2 _) (fun _ H3 e3 => val v _ .non _ H3 hrow (by simp) (by simp) rfl rfl rfl rfl rfl e3 fun Hz ods' exz mz cz lz => ?_) (fun z => nomatch z)
        refine q_when (b := false) (et_test (ev_tag rfl (exz _ _ hrow) rfl (by decide +kernel))) (fun z => nomatch z) fun _ H4 e4 => ?_
        refine s_when (b := false) (T1 "leaf" _ _ _ _ _ hrow rfl (by decide +kernel) (exz.trans e4) _) (fun z => nomatch z) fun _ H5 e5 => ?_
        exact ⟨_, _, _, ods', nk, ts, rfl, exz.trans (e4.trans e5), mz.ex (e4.trans e5), cz, hnk.congr fun x => by rw [tk, LK.needR_snoc]; simp [LK.Row.needs], lz, by omega⟩
      | set v l =>
        obtain ⟨t, hrow, htl⟩ := hrow
        have l3 := hg.nl _ (List.mem_of_getElem? hr')
        refine q_when (b := true) (T1 "set" _ _ _ _ _ hrow rfl (by decide +kernel) ex2 _) (fun _ H3 e3 => val v _ (.ref t) _ H3 hrow (by simp) (by simp) rfl rfl rfl rfl ⟨t, rfl, htl⟩ e3 fun Hz ods' exz mz cz lz => ?_) (fun z => nomatch z)
        refine q_when (b := false) (et_test (ev_tag rfl (exz _ _ hrow) rfl (by decide +kernel))) (fun z => nomatch z) fun _ H4 e4 => ?_
        refine s_when (b := true) (T1 "set" _ _ _ _ _ hrow rfl (by decide +kernel) (exz.trans e4) _) (fun _ H5 e5 => ?_) (fun z => nomatch z)
        have exw := exz.trans (e4.trans e5)
        refine need t l ods' ts _ H5 _ (ev_ixT (i := -1) (ev_var rfl) (ev_un ev_c ru_neg) (st_of (exw _ _ hrow)) rfl) htl l3 rfl exw (mz.ex (e4.trans e5)) fun Hw nk' y5' ew mw hnk' ln' => ⟨_, _, _, ods', nk', ts, rfl, ew, mw, cz, hnk', lz, ln'⟩
      | use l =>
        obtain ⟨t, hrow, htl⟩ := hrow
        have l3 := hg.nl _ (List.mem_of_getElem? hr')
        have m2' : BkM H2 b o od ad st ask nd ((LK.order (rows.take (i + 1))).map V.int) ods (kvP (LK.places (rows.take (i + 1)))) ((LK.stops (rows.take (i + 1))).map fun n => V.int (n : Nat)) (ts.map V.ref) nk := by
          rw [tk, LK.order_snoc, LK.places_snoc, LK.stops_snoc]
          simpa [LK.Row.val, LK.Row.ask, LK.at1] using m2
        refine q_when (b := false) (T1 "use" _ _ _ _ _ hrow rfl (by decide +kernel) ex2 _) (fun z => nomatch z) fun _ H3 e3 => ?_
        refine q_when (b := false) (et_test (ev_tag rfl ((ex2.trans e3) _ _ hrow) rfl (by decide +kernel))) (fun z => nomatch z) fun _ H4 e4 => ?_
        refine s_when (b := true) (T1 "use" _ _ _ _ _ hrow rfl (by decide +kernel) (ex2.trans (e3.trans e4)) _) (fun _ H5 e5 => ?_) (fun z => nomatch z)
        have exw := ex2.trans ((e3.trans e4).trans e5)
        refine need t l ods ts _ H5 _ (ev_ixT (i := -1) (ev_var rfl) (ev_un ev_c ru_neg) (st_of (exw _ _ hrow)) rfl) htl l3 rfl exw (m2'.ex ((e3.trans e4).trans e5)) fun Hw nk' y5' ew mw hnk' ln' => ⟨_, _, _, ods, nk', ts, rfl, ew, mw, by rw [tk]; exact c.use rfl rfl, hnk', by omega, ln'⟩
      | stop l =>
        obtain ⟨z, t, hrow, htl⟩ := hrow
        have sl : (LK.stops (rows.take i)).length ≤ 20 := by
          have h1 := good_stops hg
          have h2 : LK.stops rows = LK.stops (rows.take i) ++ LK.stopsF (0 + (rows.take i).length) (rows.drop i) := by
            conv => lhs; rw [← List.take_append_drop i rows]
            exact LK.stopsF_append _ _ 0
          rw [h2, List.length_append] at h1
          omega
        have tsl : ts.length ≤ 20 := by rw [c.len, LK.askedL_len]; exact sl
        refine q_when (b := false) (T1 "stop" _ _ _ _ _ hrow rfl (by decide +kernel) ex2 _) (fun z => nomatch z) fun _ H3 e3 => ?_
        refine q_when (b := true) (et_test (ev_tag rfl ((ex2.trans e3) _ _ hrow) rfl (by decide +kernel))) (fun _ H4 e4 => ?_) (fun z => nomatch z)
        have m4 := m2.ex (e3.trans e4)
        have ex4 := ex2.trans (e3.trans e4)
        refine q_appV m4.st (ev_bst m4 (ev_var rfl)) (v := .int (i : Nat)) (ev_var rfl) (by rw [List.length_map]; omega) fun H5 e5 => ?_
        have m5 := (m4.ex e5).setSt ((LK.stops (rows.take i)).map (fun n => V.int (n : Nat)) ++ [.int (i : Nat)])
        have ex5 := (ex4.trans e5).mut (o := .lst ((LK.stops (rows.take i)).map (fun n => V.int (n : Nat)) ++ [.int (i : Nat)])) st0
        generalize upd H5 st (.lst ((LK.stops (rows.take i)).map (fun n => V.int (n : Nat)) ++ [.int (i : Nat)])) = H6 at m5 ex5 ⊢
        refine s_app m5.ask (ev_bask m5 (ev_var rfl)) (v := .ref t) (ev_it rfl (ex5 _ _ hrow) rfl) (by rw [List.length_map]; omega) fun H7 e7 => ?_
        have m7 := (m5.ex e7).setAsk (ts.map V.ref ++ [.ref t])
        have ex7 := (ex5.trans e7).mut (o := .lst (ts.map V.ref ++ [.ref t])) ask0
        generalize upd H7 ask (.lst (ts.map V.ref ++ [.ref t])) = H8 at m7 ex7 ⊢
        refine s_when (b := false) (T1 "stop" _ _ _ _ _ hrow rfl (by decide +kernel) ex7 _) (fun z => nomatch z) fun _ H9 e9 => ?_
        refine ⟨_, _, _, ods, nk, ts ++ [t], rfl, ex7.trans e9, ?_, by rw [tk]; exact c.stop htl (hfit _ (List.mem_of_getElem? hr')), hnk.congr fun x => by rw [tk, LK.needR_snoc]; simp [LK.Row.needs], by omega, by omega⟩
        have m9 := m7.ex e9
        rw [tk, LK.order_snoc, LK.places_snoc, LK.stops_snoc, tl]
        simpa [LK.Row.val, LK.Row.ask, LK.at1] using m9
    · rintro σ' H' ⟨y3, y4, y5, ods, nk, ts, rfl, ex, m, c, hnk, lo, ln⟩
      rw [List.length_map, hlen] at hnk ln c m
      rw [List.take_length] at hnk c m
      have h20 := hg.rl
      have h3 := hg.ol
      refine q_forLn (ev_var rfl) (sq_of (ex oo _ hoo)) (fun j σ' H' => ∃ y5 nk, σ' = [some (.ref a), some (.ref oo), some (.ref b), y3, y4, y5] ∧ Ex H H' ∧ BkM H' b o od ad st ask nd ((LK.order rows).map V.int) ods (kvP (LK.places rows)) ((LK.stops rows).map fun n => V.int (n : Nat)) (ts.map V.ref) nk ∧
        NeedIs nk (fun x => if x ∈ out.take j then some rows.length else LK.needR rows x) ∧ nk.length ≤ 3 * rows.length + j) ?_ ?_ ?_ ?_
      · intro H2 e2
        exact ⟨_, nk, rfl, ex.trans e2, m.ex e2, hnk.congr fun x => by simp, by omega⟩
      · rintro i σ' H' _ ⟨_, _, _, ex, _⟩
        exact sq_of (ex oo _ hoo)
      · rintro j x σ' H' hx ⟨y5', nk', rfl, ex', m', hnk', hkl'⟩
        rw [List.getElem?_map] at hx
        cases ev : out[j]? with
        | none => rw [ev] at hx; cases hx
        | some v =>
          rw [ev] at hx
          cases hx
          have hj : j < out.length := (List.getElem?_eq_some_iff.mp ev).1
          refine s_dput (v := .int (rows.length : Nat)) (ev_is (ev_len (ev_var rfl) (sq_of (ex' a _ ha))) (by rw [List.length_map, hlen])) (ev_bnd m' (ev_var rfl)) (ev_var rfl) m'.nd (by omega) fun H3 e3 => ⟨_, _, rfl, Ex.mut (ex'.trans e3) nd0, (m'.ex e3).setNd _, (need_put hnk' v rows.length).congr fun x => ?_, ?_⟩
          · rw [take_row ev]
            simp only [List.mem_append, List.mem_singleton]
            by_cases q1 : x = v
            · simp [q1]
            · simp [q1]
          · have := length_putK nk' (.inl v) (V.int (rows.length : Nat))
            omega
      · rintro σ' H' ⟨y5', nk', rfl, ex', m', hnk', hkl'⟩
        rw [List.length_map, List.take_length] at hnk'
        refine s_ret (ev_var rfl) fun H3 e3 => q b H3 b0 (ex'.trans e3) ⟨o, od, ad, st, ask, nd, ods, nk', ts, m'.ex e3, c.ex (ex'.trans e3), hnk', hg⟩
end
end LKW

/-! What the law itself holds for lost. -/
namespace LKW
open PySem PySem.Spec PyProof.Rows L2 Evl

def spIsThere : Sp := fun vs H Q _ => ∃ (b : Addr) (rows : List LK.Row) (out : List Int) (v : Int) (s : Nat), vs = [.ref b, .int v, .int (s : Nat)] ∧ BookAt H b rows out ∧ v ∈ LK.order rows ∧ s < (LK.stops rows).length ∧ RetV (.bl ((LK.sysOf rows out).here v s)) H Q
def spIsLive : Sp := fun vs H Q _ => ∃ (b : Addr) (rows : List LK.Row) (out : List Int) (v : Int) (s : Nat), vs = [.ref b, .int v, .int (s : Nat)] ∧ BookAt H b rows out ∧ v ∈ LK.order rows ∧ s < (LK.stops rows).length ∧ RetV (.bl ((LK.sysOf rows out).live v s)) H Q
def kvL (D : List LK.Pt) : List (List Key × V) := D.map fun p => (kPt p, V.bl true)
def spLost : Sp := fun vs H Q _ => ∃ (b k : Addr) (rows : List LK.Row) (out : List Int) (ks : List LK.Pt), vs = [.ref b, .ref k] ∧ BookAt H b rows out ∧ PtsAt H k ks ∧
  ∀ d H' D, H d = none → Ex H H' → H' d = some (.dT (kvL D)) → LK.Sys.IsLost (LK.sysOf rows out) ks D → D.length ≤ 12 → Q (.ref d) H'

theorem kvL_len (D : List LK.Pt) : (kvL D).length = D.length := List.length_map ..
theorem kvL_is (D : List LK.Pt) (p : LK.Pt) : (valV (kvL D) (kPt p)).isSome = decide (p ∈ D) := by
  induction D with
  | nil => rfl
  | cons a D ih =>
    show (valV ((kPt a, V.bl true) :: kvL D) (kPt p)).isSome = _
    by_cases h : a = p
    · subst h
      rw [valV_pos rfl]
      simp
    · rw [valV_neg (fun z => h (kPt_inj z)), ih]
      have : ¬ p = a := fun z => h z.symm
      simp [this]
theorem kvL_neg (D : List LK.Pt) (v : Int) : valV (kvL D) [.inl v, .inl (-1)] = none := by
  induction D with
  | nil => rfl
  | cons a D ih =>
    show valV ((kPt a, V.bl true) :: kvL D) _ = _
    rw [valV_neg (fun z => ?_), ih]
    unfold kPt at z
    simp at z
theorem kvL_get {D : List LK.Pt} {p : LK.Pt} (h : p ∉ D) : valV (kvL D) (kPt p) = none := by
  have := kvL_is D p
  rw [decide_eq_false h] at this
  cases q : valV (kvL D) (kPt p) with
  | none => rfl
  | some v => rw [q] at this; cases this
def addP (D : List LK.Pt) (p : LK.Pt) : List LK.Pt := if p ∈ D then D else D ++ [p]
theorem kvL_put (D : List LK.Pt) (p : LK.Pt) : putK (kvL D) (kPt p) (.bl true) = kvL (addP D p) := by
  unfold addP
  by_cases h : p ∈ D
  · rw [if_pos h]
    unfold putK
    have e : ((kvL D).any fun kv => decide (kv.1 = kPt p)) = true := by
      rw [valV_any, kvL_is, decide_eq_true h]
    rw [if_pos e]
    unfold kvL
    rw [List.map_map]
    refine List.map_congr_left fun a _ => ?_
    simp only [Function.comp]
    split <;> rfl
  · rw [if_neg h, putK_new _ (kvL_get h)]
    unfold kvL
    rw [List.map_append]
    rfl
theorem addP_mem {D : List LK.Pt} {p q : LK.Pt} : q ∈ addP D p ↔ q ∈ D ∨ q = p := by
  unfold addP
  split
  · constructor
    · exact .inl
    · rintro (h | rfl)
      · exact h
      · assumption
  · simp
theorem addP_nodup {D : List LK.Pt} {p : LK.Pt} (h : D.Nodup) : (addP D p).Nodup := by
  unfold addP
  split
  · exact h
  · rename_i hn
    rw [List.nodup_append]
    refine ⟨h, List.nodup_cons.mpr ⟨by simp, List.nodup_nil⟩, fun a ha b hb z => ?_⟩
    simp at hb
    subst hb z
    exact hn ha
theorem order_pl {rows : List LK.Row} : LK.Valid rows → (LK.order rows).Pairwise fun a b => LK.plOf rows a < LK.plOf rows b := by
  refine LK.snoc_induct (P := fun rows => LK.Valid rows → (LK.order rows).Pairwise fun a b => LK.plOf rows a < LK.plOf rows b) (fun _ => by simp [LK.order, LK.places, LK.placesF]) (fun l r ih h => ?_) rows
  have hl := h.front
  have hr := h.last
  rw [LK.order_snoc, List.pairwise_append]
  refine ⟨List.Pairwise.imp_of_mem (fun ha hb z => ?_) (ih hl), ?_, fun a ha b hb => ?_⟩
  · rw [LK.plOf_append ha, LK.plOf_append hb]
    exact z
  · cases r.val <;> simp
  · have hb' : r.val = some b := by
      cases q : r.val with
      | none => rw [q] at hb; simp at hb
      | some c => rw [q] at hb; simp at hb; rw [hb]
    rw [LK.plOf_append ha, LK.plOf_new (hr.val hb').2 hb']
    exact LK.plOf_lt ha
/-- lost, as far as has been looked -/
def LostTo (S : LK.Sys) (K D : List LK.Pt) (s j : Nat) : Prop := D.Nodup ∧ ∀ v t, (v, t) ∈ D ↔ LK.Sys.Lost S K v t ∧ (t < s ∨ (t = s ∧ v ∈ (S.present s).take j))
theorem LostTo.nil {S : LK.Sys} {K : List LK.Pt} : LostTo S K [] 0 0 := ⟨List.nodup_nil, fun v t => by simp⟩
theorem LostTo.turn {S : LK.Sys} {K D : List LK.Pt} {s j : Nat} (h : LostTo S K D s j) (hj : (S.present s).length ≤ j) : LostTo S K D (s + 1) 0 := by
  refine ⟨h.1, fun v t => ?_⟩
  rw [h.2, List.take_of_length_le hj]
  constructor
  · rintro ⟨a, b | ⟨rfl, b⟩⟩
    · exact ⟨a, .inl (by omega)⟩
    · exact ⟨a, .inl (by omega)⟩
  · rintro ⟨a, b | ⟨_, b⟩⟩
    · refine ⟨a, ?_⟩
      rcases Nat.lt_or_eq_of_le (Nat.le_of_lt_succ b) with c | c
      · exact .inl c
      · subst c
        have hp := LK.Sys.mem_points.mp a.pt
        exact .inr ⟨rfl, List.mem_filter.mpr ⟨hp.1, hp.2.2⟩⟩
    · simp at b
theorem LostTo.all {S : LK.Sys} {K D : List LK.Pt} {s : Nat} (h : LostTo S K D s 0) (hs : S.stops.length ≤ s) : LK.Sys.IsLost S K D := by
  refine ⟨h.1, fun v t => ?_⟩
  rw [h.2]
  constructor
  · exact fun a => a.1
  · intro a
    have hp := LK.Sys.mem_points.mp a.pt
    exact ⟨a, .inl (by omega)⟩
theorem LostTo.few {S : LK.Sys} {K D : List LK.Pt} {s j : Nat} (h : LostTo S K D s j) : D.length ≤ S.points.length := LK.Sys.sub_len h.1 fun p hp => ((h.2 p.1 p.2).mp hp).1.pt
def OpenIn (S : LK.Sys) (D : List LK.Pt) (v : Int) (s : Nat) : Prop := S.ops v = none ∨ ∃ l o, S.ops v = some l ∧ o ∈ l ∧ (o, s) ∈ D
theorem LostTo.step {S : LK.Sys} {K D : List LK.Pt} {s j : Nat} {v : Int} (w : S.Wf) (hpl : S.vals.Pairwise fun a b => S.pl a < S.pl b) (h : LostTo S K D s j) (hv : (S.present s)[j]? = some v) (hs : s < S.stops.length) :
    (v, s) ∉ D ∧ (LK.Sys.Lost S K v s ↔ (OpenIn S D v s ∧ (v, s) ∉ K ∧ S.live v s = false) ∨ ∃ s', s = s' + 1 ∧ (v, s') ∈ D) := by
  have nd : (S.present s).Nodup := LK.Sys.nodup_filter w.nodup
  have hpp : (S.present s).Pairwise fun a b => S.pl a < S.pl b := List.Pairwise.sublist List.filter_sublist hpl
  have hvm := List.mem_filter.mp (List.mem_of_getElem? hv)
  have hvp : (v, s) ∈ S.points := LK.Sys.mem_points.mpr ⟨hvm.1, hs, hvm.2⟩
  obtain ⟨jl, jv⟩ := List.getElem?_eq_some_iff.mp hv
  constructor
  · intro hd
    rcases ((h.2 v s).mp hd).2 with q | ⟨_, q⟩
    · omega
    · obtain ⟨i, hi, ei⟩ := List.getElem_of_mem q
      rw [List.length_take] at hi
      rw [List.getElem_take] at ei
      exact List.pairwise_iff_getElem.mp nd i j (by omega) jl (by omega) (by rw [ei, jv])
  · rw [LK.Sys.lost_iff]
    have lower : ∀ l o, S.ops v = some l → o ∈ l → LK.Sys.Lost S K o s → (o, s) ∈ D := by
      intro l o hl ho hlo
      refine (h.2 o s).mpr ⟨hlo, .inr ⟨rfl, ?_⟩⟩
      have lt := (w.ops v hvm.1 l hl o ho).2
      have hop := LK.Sys.mem_points.mp hlo.pt
      have om : o ∈ S.present s := List.mem_filter.mpr ⟨hop.1, hop.2.2⟩
      obtain ⟨i, hi, ei⟩ := List.getElem_of_mem om
      have ij : i < j := by
        apply Classical.byContradiction
        intro hc
        rcases Nat.lt_or_eq_of_le (Nat.le_of_not_lt hc) with c | c
        · have := List.pairwise_iff_getElem.mp hpp j i jl hi c
          rw [ei, jv] at this
          omega
        · subst c
          rw [ei] at jv
          subst jv
          omega
      rw [List.mem_take_iff_getElem]
      exact ⟨i, by omega, ei⟩
    constructor
    · rintro ⟨_, ⟨ho, hk, hl⟩ | ⟨s', rfl, hl⟩⟩
      · refine .inl ⟨?_, hk, hl⟩
        rcases ho with ho | ⟨l, o, h1, h2, h3⟩
        · exact .inl ho
        · exact .inr ⟨l, o, h1, h2, lower l o h1 h2 h3⟩
      · exact .inr ⟨s', rfl, (h.2 v s').mpr ⟨hl, .inl (by omega)⟩⟩
    · rintro (⟨ho, hk, hl⟩ | ⟨s', rfl, hl⟩)
      · refine ⟨hvp, .inl ⟨?_, hk, hl⟩⟩
        rcases ho with ho | ⟨l, o, h1, h2, h3⟩
        · exact .inl ho
        · exact .inr ⟨l, o, h1, h2, ((h.2 o s).mp h3).1⟩
      · exact ⟨hvp, .inr ⟨s', rfl, ((h.2 v s').mp hl).1⟩⟩
theorem LostTo.next {S : LK.Sys} {K D D' : List LK.Pt} {s j : Nat} {v : Int} (h : LostTo S K D s j) (hv : (S.present s)[j]? = some v) (nd : D'.Nodup) (hm : ∀ q, q ∈ D' ↔ q ∈ D ∨ (q = (v, s) ∧ LK.Sys.Lost S K v s)) : LostTo S K D' s (j + 1) := by
  refine ⟨nd, fun u t => ?_⟩
  rw [hm, h.2, List.take_add_one, hv]
  constructor
  · rintro (⟨a, b | ⟨rfl, b⟩⟩ | ⟨e, a⟩)
    · exact ⟨a, .inl b⟩
    · exact ⟨a, .inr ⟨rfl, List.mem_append_left _ b⟩⟩
    · cases e
      exact ⟨a, .inr ⟨rfl, List.mem_append_right _ (by simp)⟩⟩
  · rintro ⟨a, b | ⟨rfl, b⟩⟩
    · exact .inl ⟨a, .inl b⟩
    · rcases List.mem_append.mp b with b | b
      · exact .inl ⟨a, .inr ⟨rfl, b⟩⟩
      · simp at b
        subst b
        exact .inr ⟨rfl, a⟩
section
variable {P : Program} {w : World} {K : PySem.W.Frag} {mg : Str → Option Value} {base : Heap} {CN CS : Addr}
section
variable {H H' : Hp} {b o od ad st ask nd : Addr} {ov av : List V} {rows : List LK.Row} {ods nk : List (Key × V)} {σ : L2.St} {ta tb : TE}
theorem ev_bplace {sv : List V} (m : BkM H b o od ad st ask nd ov ods (kvP (LK.places rows)) sv av nk) (h : Ev ta σ H (.ref b)) {v : Int} (k : Ev tb σ H (.int v)) (hv : v ∈ LK.order rows) : Ev (tDGet (tDGet ta (tC (.str "at"))) tb) σ H (.int (LK.plOf rows v : Nat)) :=
  ev_dget (ev_bad m h) k (.inl m.ad) (by rw [kvP_val, (LK.plOf_mem hv).2]; rfl)
theorem ev_bstop {ads : List (Key × V)} (m : BkM H b o od ad st ask nd ov ods ads ((LK.stops rows).map fun n => V.int (n : Nat)) av nk) (h : Ev ta σ H (.ref b)) {s : Nat} (k : Ev tb σ H (.int (s : Nat))) (hs : s < (LK.stops rows).length) :
    Ev (tOp (rIxL K) (tDGet ta (tC (.str "stops"))) tb) σ H (.int ((LK.stops rows).getD s 0 : Nat)) :=
  ev_ixL (ev_bst m h) k (sq_of m.st) (atI_nat (by rw [List.getElem?_map, List.getElem?_eq_getElem hs, List.getD_eq_getElem?_getD, List.getElem?_eq_getElem hs]; rfl))
end

theorem ok_IsThere {f : Addr} {fd : FuncData} (F : Fun K "_law_is_there" "_law_is_there" sIsThere f fd) (T : Txt K mg CN CS)  : FnOk P w K mg base CX0 1 f fd PIsThere (spIsThere) := by
  refine F.ok scIsThere (fun vs H Q E h => ?_) (fun cdv A outer s H vs Q E hr h => ?_)
  · obtain ⟨b, rows, out, v, s, rfl, ⟨o, od, ad, st, ask, nd, ods, nk, ts, m, c, hn, g⟩, hv, hs, q⟩ := h
    rfl
  · obtain ⟨b, rows, out, v, s, rfl, ⟨o, od, ad, st, ask, nd, ods, nk, ts, m, c, hn, g⟩, hv, hs, q⟩ := h
    have hu := hu_of hr
    refine ⟨_, (pss_one (ps_ret (pe_cmpR op_lt (pe_dget hu (pe_dget hu (pv 0) pe_str (fun _ _ => rfl)) (pv 1) (fun _ _ => rfl)) (pe_ix ix_list (pe_dget hu (pv 0) pe_str (fun _ _ => rfl)) (pv 2) (fun _ _ => rfl)) (nomark _)))), ?_⟩
    refine s_ret (ev_is (ev_op (ev_bplace m (ev_var rfl) (ev_var rfl) hv) (ev_bstop m (ev_var rfl) (ev_var rfl) hs) rv_I0) ?_) fun H1 e1 => q H1 e1
    show V.bl (decide (((LK.plOf rows v : Nat) : Int) < (((LK.stops rows).getD s 0 : Nat) : Int))) = V.bl (decide (LK.plOf rows v < (LK.stops rows).getD s 0))
    congr 1
    exact decide_eq_decide.mpr (by omega)

theorem ok_IsLive {f : Addr} {fd : FuncData} (F : Fun K "_law_is_live" "_law_is_live" sIsLive f fd) (T : Txt K mg CN CS) (dIsThere : Df P w K mg base "_law_is_there" PIsThere 1 (spIsThere)) : FnOk P w K mg base CX0 2 f fd PIsLive (spIsLive) := by
  refine F.ok scIsLive (fun vs H Q E h => ?_) (fun cdv A outer s H vs Q E hr h => ?_)
  · obtain ⟨b, rows, out, v, s, rfl, ⟨o, od, ad, st, ask, nd, ods, nk, ts, m, c, hn, g⟩, hv, hs, q⟩ := h
    rfl
  · obtain ⟨b, rows, out, v, s, rfl, ⟨o, od, ad, st, ask, nd, ods, nk, ts, m, c, hn, g⟩, hv, hs, q⟩ := h
    have hu := hu_of hr
    refine ⟨_, (pss_one (ps_ret (pe_and (pe_call dIsThere.G (hr.mono (by decide)) (by rfl) dIsThere.g dIsThere.kp dIsThere.b .nil pass0 (pa_cons (pv 0) (pa_cons (pv 1) (pa_cons (pv 2) pa_nil)))) (pe_one (pe_cmpR op_gt (pe_dget2 hu (pe_dget hu (pv 0) pe_str (fun _ _ => rfl)) (pv 1) (pe_un un_neg pe_int) ⟨rfl, rfl, rfl, rfl⟩) (pe_ix ix_list (pe_dget hu (pv 0) pe_str (fun _ _ => rfl)) (pv 2) (fun _ _ => rfl)) (nomark _)))))), ?_⟩
    refine s_ret (ev_andV (a := (LK.sysOf rows out).here v s) (b := decide ((LK.sysOf rows out).need v > ((LK.stops rows).getD s 0 : Nat))) (ev_call (ea_cons (ev_var rfl) (ea_cons (ev_var rfl) (ea_cons (ev_var rfl) ea_nil))) fun H1 e Q' q' E' =>
      ⟨b, rows, out, v, s, rfl, ⟨o, od, ad, st, ask, nd, ods, nk, ts, m.ex e, c.ex e, hn, g⟩, hv, hs, q'⟩) fun _ => ?_) fun H1 e1 => q H1 e1
    have e0 : (valV nk (.inl v)).getD (.int (-1)) = .int ((LK.sysOf rows out).need v) := by
      rw [hn v]
      show _ = V.int (match LK.needAll rows out v with | some n => (n : Int) | none => -1)
      cases LK.needAll rows out v <;> rfl
    exact ev_op (ev_is (ev_dget2 (ev_bnd m (ev_var rfl)) (ev_var rfl) (ev_un ev_c ru_neg) (.inl m.nd)) e0) (ev_bstop m (ev_var rfl) (ev_var rfl) hs) rv_I0

theorem there_call {σ : L2.St} {H : Hp} {ta tb tc : TE} {E : XK} {b : Addr} {rows : List LK.Row} {out : List Int} {v : Int} {s : Nat} (h1 : Ev ta σ H (.ref b)) (h2 : Ev tb σ H (.int v)) (h3 : Ev tc σ H (.int (s : Nat))) (hb : BookAt H b rows out) (hv : v ∈ LK.order rows) (hs : s < (LK.stops rows).length) :
    Ev (tCall spIsThere [] E (tCons ta (tCons tb (tCons tc tNil)))) σ H (.bl ((LK.sysOf rows out).here v s)) := ev_call (ea_cons h1 (ea_cons h2 (ea_cons h3 ea_nil))) fun H1 e Q q E => ⟨b, rows, out, v, s, rfl, hb.ex e, hv, hs, q⟩
theorem live_call {σ : L2.St} {H : Hp} {ta tb tc : TE} {E : XK} {b : Addr} {rows : List LK.Row} {out : List Int} {v : Int} {s : Nat} (h1 : Ev ta σ H (.ref b)) (h2 : Ev tb σ H (.int v)) (h3 : Ev tc σ H (.int (s : Nat))) (hb : BookAt H b rows out) (hv : v ∈ LK.order rows) (hs : s < (LK.stops rows).length) :
    Ev (tCall spIsLive [] E (tCons ta (tCons tb (tCons tc tNil)))) σ H (.bl ((LK.sysOf rows out).live v s)) := ev_call (ea_cons h1 (ea_cons h2 (ea_cons h3 ea_nil))) fun H1 e Q q E => ⟨b, rows, out, v, s, rfl, hb.ex e, hv, hs, q⟩
theorem eu_pt {σ : L2.St} {H : Hp} {ta tb : TE} {v : Int} {s : Nat} (h1 : Ev ta σ H (.int v)) (h2 : Ev tb σ H (.int (s : Nat))) : EvU (tTup (tCons ta (tCons tb tNil))) σ H ((kPt (v, s)).map kV) := eu_tup (ea_cons h1 (ea_cons h2 ea_nil)) (show 2 ≤ 100000 by decide)
/-- (v, s) in found -/
theorem ev_found {σ : L2.St} {H : Hp} {ta tb td : TE} {d : Addr} {D : List LK.Pt} {v : Int} {s : Nat} (h1 : Ev ta σ H (.int v)) (h2 : Ev tb σ H (.int (s : Nat))) (hd : Ev td σ H (.ref d)) (ho : Rd H d (.dT (kvL D))) : Ev (tDIn (tTup (tCons ta (tCons tb tNil))) td) σ H (.bl (decide ((v, s) ∈ D))) :=
  ev_is (ev_dinT (eu_pt h1 h2) hd ho) (by rw [kvL_is])
/-- (v, s) not in kept -/
theorem ev_ptNot {σ : L2.St} {H : Hp} {ta tb td : TE} {k : Addr} {ks : List LK.Pt} {v : Int} {s : Nat} (h1 : Ev ta σ H (.int v)) (h2 : Ev tb σ H (.int (s : Nat))) (hk : Ev td σ H (.ref k)) (hks : PtsAt H k ks) : Ev (tOp (rNotInD K) (tTup (tCons ta (tCons tb tNil))) td) σ H (.bl (!decide ((v, s) ∈ ks))) := fun H1 e Q q =>
  eu_pt h1 h2 H1 e _ fun p H2 _ e2 hp => hk H2 (e.trans e2) _ fun H3 e3 => ⟨dPt (v, s), ks.map dPt, dp_pt (p := (v, s)) (e3 _ _ hp), dp_pts (hks.ex ((e.trans e2).trans e3)), shp_pt _, shp_pts _, by
    rw [any_pt]
    exact q H3 (e2.trans e3)⟩
theorem given_int {l : List Int} {f : Nat → Bool} {v : Nat → V} {g : Int → Bool} {n : Nat} (hn : n = l.length) (hf : ∀ i x, l[i]? = some x → f i = g x) (hv : ∀ i x, l[i]? = some x → v i = V.int x) : given n f v = (l.filter g).map V.int := by
  have := given_filter (kvs := List.replicate l.length ((Sum.inl 0 : Key), V.non)) (l := l) (List.length_replicate ..) hf hv
  rw [List.length_replicate] at this
  rw [hn]
  exact this
theorem lost_fin {S : LK.Sys} {K D D1 : List LK.Pt} {s j : Nat} {v : Int} {c : Prop} (h : LostTo S K D s j) (hv : (S.present s)[j]? = some v) (hst : LK.Sys.Lost S K v s ↔ c ∨ ∃ s', s = s' + 1 ∧ (v, s') ∈ D) (n1 : D1.Nodup) (m1 : ∀ q, q ∈ D1 ↔ q ∈ D ∨ (q = (v, s) ∧ c)) :
    ((∃ s', s = s' + 1 ∧ (v, s') ∈ D1) → LostTo S K (addP D1 (v, s)) s (j + 1)) ∧ ((¬ ∃ s', s = s' + 1 ∧ (v, s') ∈ D1) → LostTo S K D1 s (j + 1)) := by
  have e : (∃ s', s = s' + 1 ∧ (v, s') ∈ D1) ↔ ∃ s', s = s' + 1 ∧ (v, s') ∈ D := by
    constructor
    · rintro ⟨s', e1, e2⟩
      refine ⟨s', e1, ?_⟩
      rcases (m1 _).mp e2 with q | ⟨q, _⟩
      · exact q
      · have := (Prod.mk.injEq ..).mp q
        omega
    · rintro ⟨s', e1, e2⟩
      exact ⟨s', e1, (m1 _).mpr (.inl e2)⟩
  constructor
  · intro c2
    refine h.next hv (addP_nodup n1) fun q => ?_
    rw [addP_mem, m1, hst]
    constructor
    · rintro ((a | ⟨a, b⟩) | a)
      · exact .inl a
      · exact .inr ⟨a, .inl b⟩
      · exact .inr ⟨a, .inr (e.mp c2)⟩
    · rintro (a | ⟨a, _⟩)
      · exact .inl (.inl a)
      · exact .inr a
  · intro c2
    refine h.next hv n1 fun q => ?_
    rw [m1, hst]
    constructor
    · rintro (a | ⟨a, b⟩)
      · exact .inl a
      · exact .inr ⟨a, .inl b⟩
    · rintro (a | ⟨a, b | b⟩)
      · exact .inl a
      · exact .inr ⟨a, b⟩
      · exact absurd (e.mpr b) c2
def prevIn (D : List LK.Pt) (v : Int) : Nat → Bool
  | 0 => false
  | s + 1 => decide ((v, s) ∈ D)
theorem prevIn_iff {D : List LK.Pt} {v : Int} {s : Nat} : prevIn D v s = true ↔ ∃ s', s = s' + 1 ∧ (v, s') ∈ D := by
  cases s with
  | zero => exact ⟨(fun h => nomatch h), fun ⟨s', e, _⟩ => by omega⟩
  | succ s => exact ⟨fun h => ⟨s, rfl, of_decide_eq_true h⟩, fun ⟨s', e, h⟩ => by
      have : s' = s := by omega
      subst this
      exact decide_eq_true h⟩
/-- (v, s - 1) in found -/
theorem ev_foundP {σ : L2.St} {H : Hp} {ta tb td : TE} {d : Addr} {D : List LK.Pt} {v : Int} {s : Nat} (h1 : Ev ta σ H (.int v)) (h2 : Ev tb σ H (.int (s : Nat))) (hd : Ev td σ H (.ref d)) (ho : Rd H d (.dT (kvL D))) :
    Ev (tDIn (tTup (tCons ta (tCons (tOp (rI0 fun i j => V.int (i - j)) tb (tC (.int 1))) tNil))) td) σ H (.bl (prevIn D v s)) := by
  cases s with
  | zero =>
    refine ev_is (ev_dinT (k := [.inl v, .inl (-1)]) (eu_tup (ea_cons h1 (ea_cons (ev_is (ev_op h2 ev_c rv_I0) rfl) ea_nil)) (show 2 ≤ 100000 by decide)) hd ho) ?_
    rw [kvL_neg]
    rfl
  | succ s =>
    refine ev_found (v := v) (s := s) h1 (ev_is (ev_op h2 ev_c rv_I0) ?_) hd ho
    congr 1
    omega

theorem ok_Lost {f : Addr} {fd : FuncData} (F : Fun K "_law_lost" "_law_lost" sLost f fd) (T : Txt K mg CN CS) (dIsLive : Df P w K mg base "_law_is_live" PIsLive 2 (spIsLive)) (dIsThere : Df P w K mg base "_law_is_there" PIsThere 1 (spIsThere)) : FnOk P w K mg base CX0 3 f fd PLost (spLost) := by
  refine F.ok scLost (fun vs H Q E h => ?_) (fun cdv A outer s H vs Q E hr h => ?_)
  · obtain ⟨b, k, rows, out, ks, rfl, hb, hk, q⟩ := h
    rfl
  · obtain ⟨b, k, rows, out, ks, rfl, hb, hk, q⟩ := h
    have hu := hu_of hr
    refine ⟨_, (pss_cons (ps_set (i := 2) scLost.nd rfl (.inr rfl) pe_dnewT)
      (pss_cons (ps_for PassesOwn.never rfl (pi_range1 (by rfl) T.m_range (pa_cons (pe_callB call_len_seq (by rfl) T.m_len (by decide +kernel) (pa_cons (pe_dget hu (pv 0) pe_str (fun _ _ => rfl)) pa_nil)) pa_nil)) (pg_name (i := 3) scLost.nd rfl (.inr rfl)) (pss_one (ps_for PassesOwn.never rfl (pi_list (pe_lc (own := [("_law_value", 4)]) (g := gName 4) rfl scLost.nd (pi_list (pe_dget hu (pv 0) pe_str (fun _ _ => rfl))) (blkOk_by (own := [("_law_value", 4)]) (N := NLost) (sc := defScope sLost) (by decide +kernel)) (fun _ _ _ _ _ => (pg_name (i := 4) scLost.nd rfl (.inl rfl))) (fun _ _ _ _ _ => (pts_one (pt_val (pe_call dIsThere.G (hr.mono (by decide)) (by rfl) dIsThere.g dIsThere.kp dIsThere.b .nil pass0 (pa_cons (pv 0) (pa_cons (pv 4) (pa_cons (pv 3) pa_nil))))))) (fun _ _ _ _ _ => (pv 4)))) (pg_name (i := 4) scLost.nd rfl (.inl rfl)) (pss_cons (ps_set (i := 5) scLost.nd rfl (.inl rfl) (pe_dget hu (pe_dget hu (pv 0) pe_str (fun _ _ => rfl)) (pv 4) (fun _ _ => rfl)))
      (pss_cons (ps_set (i := 6) scLost.nd rfl (.inl rfl) (pe_or (pe_cmpR op_isN (pv 5) pe_non (nomark _)) (pe_one (pe_cmpR (op_neD hr.units) (pe_lc (own := [("_law_part", 7)]) (g := gName 7) rfl scLost.nd (pi_tup (pv 5)) (blkOk_by (own := [("_law_part", 7)]) (N := NLost) (sc := defScope sLost) (by decide +kernel)) (fun _ _ _ _ _ => (pg_name (i := 7) scLost.nd rfl (.inl rfl))) (fun _ _ _ _ _ => (pts_one (pt_cmp (pc_din hu (pe_tup (pa_cons (pv 7) (pa_cons (pv 3) pa_nil))) (pv 2))))) (fun _ _ _ _ _ => (pv 7))) (pe_lst pa_nil) (nomark _)))))
      (pss_cons (ps_if (PW.pt (pw_and (pt_val (pv 6)) (pw_and (pt_cmpR (op_notInD (hu65 hr)) (pe_tup (pa_cons (pv 4) (pa_cons (pv 3) pa_nil))) (pv 1) (by rfl)) (pw_and1 (pt_not (pt_val (pe_call dIsLive.G (hr.mono (by decide)) (by rfl) dIsLive.g dIsLive.kp dIsLive.b .nil pass0 (pa_cons (pv 0) (pa_cons (pv 4) (pa_cons (pv 3) pa_nil)))))))))) (pss_one (ps_dput hu (pv 2) (pe_tup (pa_cons (pv 4) (pa_cons (pv 3) pa_nil))) pe_bl rfl)) pss_nil)
      (pss_one (ps_if (pt_cmp (pc_din hu (pe_tup (pa_cons (pv 4) (pa_cons (pe_op op_sub (pv 3) pe_int) pa_nil))) (pv 2))) (pss_one (ps_dput hu (pv 2) (pe_tup (pa_cons (pv 4) (pa_cons (pv 3) pa_nil))) pe_bl rfl)) pss_nil))))))))
      (pss_one (ps_ret (pv 2))))), ?_⟩
    have hB := hb
    obtain ⟨o, od, ad, st, ask, nd, ods, nk, ts, m, c, hn, g⟩ := hb
    have wf := LK.wf_sysOf (out := out) g.valid
    have hpl : (LK.sysOf rows out).vals.Pairwise fun a b => (LK.sysOf rows out).pl a < (LK.sysOf rows out).pl b := order_pl g.valid
    have fewp := points_few g
    have hol := good_rl g
    have hsl := good_stops g
    refine q_newT fun d H1 hd e1 h1 => ?_
    refine q_forR1 (n := ((LK.stops rows).length : Int)) (ea_cons (ev_is (ev_len (ev_bst (m.ex e1) (ev_var rfl)) (sq_of (m.ex e1).st)) (by rw [List.length_map])) ea_nil) ⟨by omega, by omega⟩
      (fun s σ' H' => ∃ y3 y4 y5 y6 D, σ' = [some (.ref b), some (.ref k), some (.ref d), y3, y4, y5, y6, none] ∧ Ex H H' ∧ H' d = some (.dT (kvL D)) ∧ LostTo (LK.sysOf rows out) ks D s 0) (fun H2 e2 => ⟨none, none, none, none, [], rfl, e1.trans e2, e2 _ _ h1, LostTo.nil⟩) ?_ ?_
    · rintro s σ' H' hs' ⟨y3, y4, y5, y6, D, rfl, ex, hd', hD⟩
      have hs : s < (LK.stops rows).length := by omega
      have m' := m.ex ex
      have fi : EvL (tLc (iList K (tDGet (tVar 0) (tC (.str "order")))) (gName 4) (tB (tCall spIsThere [] E0 (tCons (tVar 0) (tCons (tVar 4) (tCons (tVar 3) tNil))))) (tVar 4) [4]) [some (.ref b), some (.ref k), some (.ref d), some (.int (s : Nat)), y4, y5, y6, none] H' (((LK.sysOf rows out).present s).map V.int) := by
        have eg := given_int (l := LK.order rows) (n := ((LK.order rows).map V.int).length) (f := fun i => (LK.sysOf rows out).here ((LK.order rows).getD i 0) s) (v := fun i => V.int ((LK.order rows).getD i 0)) (g := fun v => (LK.sysOf rows out).here v s) (List.length_map ..)
          (fun i x h => by rw [List.getD_eq_getElem?_getD, h]; rfl) (fun i x h => by rw [List.getD_eq_getElem?_getD, h]; rfl)
        show EvL _ _ _ (((LK.order rows).filter fun v => (LK.sysOf rows out).here v s).map V.int)
        rw [← eg]
        refine el_lcL _ _ (ev_bo m' (ev_var rfl)) (sq_of m'.o) (by rw [List.length_map]; omega) (fun _ => rfl) (fun i x H2 e2 hx => ?_) fun i x H2 e2 hx _ => ?_
        · rw [List.getElem?_map] at hx
          cases ev : (LK.order rows)[i]? with
          | none => rw [ev] at hx; cases hx
          | some v =>
            rw [ev] at hx
            cases hx
            refine et_B (ev_is (there_call (v := v) (ev_var rfl) (ev_var rfl) (ev_var rfl) (hB.ex (ex.trans e2)) (List.mem_of_getElem? ev) hs) ?_)
            rw [List.getD_eq_getElem?_getD, ev]; rfl
        · rw [List.getElem?_map] at hx
          cases ev : (LK.order rows)[i]? with
          | none => rw [ev] at hx; cases hx
          | some v =>
            rw [ev] at hx
            cases hx
            refine ev_is (ev_var rfl) ?_
            rw [List.getD_eq_getElem?_getD, ev]; rfl
      refine s_forNL fi (fun p j σ' H' => ∃ y4 y5 y6 D, σ' = [some (.ref b), some (.ref k), some (.ref d), some (.int (s : Nat)), y4, y5, y6, none] ∧ Ex H H' ∧ H' p = some (.lst (((LK.sysOf rows out).present s).map V.int)) ∧ H' d = some (.dT (kvL D)) ∧ LostTo (LK.sysOf rows out) ks D s j) ?_ ?_ ?_ ?_
      · intro p H2 _ e2 h2
        exact ⟨_, _, _, D, rfl, ex.trans e2, h2, e2 _ _ hd', hD⟩
      · rintro p i σ' H' _ ⟨_, _, _, _, _, _, h, _⟩
        exact sq_of h
      · rintro p j x σ' H2 hx ⟨y4, y5, y6, D, rfl, ex2, hp2, hd2, hD2⟩
        rw [List.getElem?_map] at hx
        cases ev : ((LK.sysOf rows out).present s)[j]? with
        | none => rw [ev] at hx; cases hx
        | some v =>
          rw [ev] at hx
          cases hx
          have hvm := List.mem_filter.mp (List.mem_of_getElem? ev)
          have hvo : v ∈ LK.order rows := hvm.1
          obtain ⟨pn, hst⟩ := hD2.step wf hpl ev hs
          have hDl := Nat.le_trans hD2.few fewp
          obtain ⟨u, hu1, hu2⟩ := c.odv v hvo
          have pd : p ≠ d := ne_of hp2 hd2 (by intro z; cases z)
          refine q_asg (v := u) (ev_dget (ev_bod (m.ex ex2) (ev_var rfl)) (ev_var rfl) (.inl (m.ex ex2).od) hu1) fun H3 e3 => ?_
          have ex3 := ex2.trans e3
          have hd3 := e3 _ _ hd2
          have hp3 := e3 _ _ hp2
          obtain ⟨ob, hob, hev⟩ : ∃ ob : Bool, (ob = true ↔ OpenIn (LK.sysOf rows out) D v s) ∧ Ev (tOrV (tOp (fun x y H Q => y = .non ∧ Q (.bl (decide (x = .non))) H) (tVar 5) (tC .non)) (tOp (rNeD K) (tLc (iTup K (tVar 5)) (gName 7) (tB (tDIn (tTup (tCons (tVar 7) (tCons (tVar 3) tNil))) (tVar 2))) (tVar 7) [7]) (tLst tNil)))
              [some (.ref b), some (.ref k), some (.ref d), some (.int (s : Nat)), some (.int v), some u, y6, none] H3 (.bl ob) := by
            cases ho : LK.opsOf rows v with
            | none =>
              rw [ho] at hu2
              cases hu2
              exact ⟨true, ⟨fun _ => .inl ho, fun _ => rfl⟩, ev_orV (a := true) (b := true) (ev_is (ev_isN (ev_var rfl)) rfl) (fun z => nomatch z)⟩
            | some l =>
              rw [ho] at hu2
              obtain ⟨t, rfl, htl⟩ := hu2
              have l3 := opsOf_len g ho
              have eg := given_int (l := l) (n := (l.map V.int).length) (f := fun i => decide ((l.getD i 0, s) ∈ D)) (v := fun i => V.int (l.getD i 0)) (g := fun o => decide ((o, s) ∈ D)) (List.length_map ..)
                (fun i x h => by rw [List.getD_eq_getElem?_getD, h]; rfl) (fun i x h => by rw [List.getD_eq_getElem?_getD, h]; rfl)
              refine ⟨false || !((l.filter fun o => decide ((o, s) ∈ D)).map PyData.int).isEmpty, ?_, ev_orV (a := false) (b := !((l.filter fun o => decide ((o, s) ∈ D)).map PyData.int).isEmpty) (ev_is (ev_isN (ev_var rfl)) rfl) fun _ => ev_neN (xs := (l.filter fun o => decide ((o, s) ∈ D)).map V.int) ?_ (fun H4 _ => dp_ints _) (shp_ints _)⟩
              · rw [Bool.false_or]
                constructor
                · intro hne
                  cases hf : l.filter fun o => decide ((o, s) ∈ D) with
                  | nil => rw [hf] at hne; simp at hne
                  | cons o r =>
                    have := List.mem_filter.mp (show o ∈ l.filter fun o => decide ((o, s) ∈ D) by rw [hf]; exact List.mem_cons_self ..)
                    exact .inr ⟨l, o, ho, this.1, of_decide_eq_true this.2⟩
                · rintro (z | ⟨l', o, z, h4, h5⟩)
                  · have z' : LK.opsOf rows v = none := z
                    rw [ho] at z'; cases z'
                  · have z' : LK.opsOf rows v = some l' := z
                    rw [ho] at z'
                    cases z'
                    have : o ∈ l.filter fun o => decide ((o, s) ∈ D) := List.mem_filter.mpr ⟨h4, decide_eq_true h5⟩
                    cases hf : l.filter fun o => decide ((o, s) ∈ D) with
                    | nil => rw [hf] at this; simp at this
                    | cons o r => rfl
              · rw [← eg]
                refine el_lcT _ _ (ev_var rfl) (htl.ex ex3).sq (by rw [List.length_map]; omega) (fun _ => rfl) (fun i x H4 e4 hx => ?_) fun i x H4 e4 hx _ => ?_
                · rw [List.getElem?_map] at hx
                  cases el : l[i]? with
                  | none => rw [el] at hx; cases hx
                  | some o' =>
                    rw [el] at hx
                    cases hx
                    refine et_B (ev_is (ev_found (v := o') (s := s) (ev_var rfl) (ev_var rfl) (ev_var rfl) (.inl (e4 _ _ hd3))) ?_)
                    rw [List.getD_eq_getElem?_getD, el]; rfl
                · rw [List.getElem?_map] at hx
                  cases el : l[i]? with
                  | none => rw [el] at hx; cases hx
                  | some o' =>
                    rw [el] at hx
                    cases hx
                    refine ev_is (ev_var rfl) ?_
                    rw [List.getD_eq_getElem?_getD, el]; rfl
          refine q_asg (v := .bl ob) hev fun H4 e4 => ?_
          have ex4 := ex3.trans e4
          have hd4 := e4 _ _ hd3
          have hp4 := e4 _ _ hp3
          have c1 : ((ob && (!decide ((v, s) ∈ ks) && !(LK.sysOf rows out).live v s)) = true) ↔ (OpenIn (LK.sysOf rows out) D v s ∧ (v, s) ∉ ks ∧ (LK.sysOf rows out).live v s = false) := by
            simp only [Bool.and_eq_true, Bool.not_eq_true', decide_eq_false_iff_not, hob]
          refine q_when (b := ob && (!decide ((v, s) ∈ ks) && !(LK.sysOf rows out).live v s)) (et_and (et_B (ev_var rfl)) fun _ => et_and (et_test (ev_ptNot (ev_var rfl) (ev_var rfl) (ev_var rfl) (hk.ex ex4))) fun _ => et_not (et_B (live_call (v := v) (ev_var rfl) (ev_var rfl) (ev_var rfl) (hB.ex ex4) hvo hs))) (fun hc H5 e5 => ?_) (fun hc H5 e5 => ?_)
          · refine s_dputT (ks := kPt (v, s)) ev_c (ev_var rfl) (eu_pt (ev_var rfl) (ev_var rfl)) (e5 _ _ hd4) (by rw [kvL_len]; omega) fun H6 e6 => ?_
            rw [kvL_put]
            have ex6 := ((ex4.trans e5).trans e6).mut (o := .dT (kvL (addP D (v, s)))) hd
            have hp6 := (upd_ne (o := .dT (kvL (addP D (v, s)))) pd).trans ((e5.trans e6) _ _ hp4)
            have hd6 : (upd H6 d (.dT (kvL (addP D (v, s))))) d = some (.dT (kvL (addP D (v, s)))) := upd_same
            generalize upd H6 d (.dT (kvL (addP D (v, s)))) = H7 at ex6 hp6 hd6 ⊢
            have fin := lost_fin hD2 ev hst (addP_nodup hD2.1 (p := (v, s))) fun q => by
              rw [addP_mem]
              exact ⟨fun z => z.imp id fun e => ⟨e, c1.mp hc⟩, fun z => z.imp id fun e => e.1⟩
            refine s_when (et_B (ev_foundP (ev_var rfl) (ev_var rfl) (ev_var rfl) (.inl hd6))) (fun h2 H8 e8 => ?_) (fun h2 H8 e8 => ⟨_, _, _, _, rfl, ex6.trans e8, e8 _ _ hp6, e8 _ _ hd6, fin.2 (fun z => by rw [prevIn_iff.mpr z] at h2; cases h2)⟩)
            have l2 := (fin.1 (prevIn_iff.mp h2)).few
            have l1 : (addP D (v, s)).length ≤ 20 := by
              unfold addP
              split
              · omega
              · rw [List.length_append]; simp; omega
            refine s_dputT (ks := kPt (v, s)) ev_c (ev_var rfl) (eu_pt (ev_var rfl) (ev_var rfl)) (e8 _ _ hd6) (by rw [kvL_len]; omega) fun H9 e9 => ?_
            rw [kvL_put]
            exact ⟨_, _, _, _, rfl, (ex6.trans (e8.trans e9)).mut hd, (upd_ne pd).trans ((e8.trans e9) _ _ hp6), upd_same, fin.1 (prevIn_iff.mp h2)⟩
          · have fin := lost_fin hD2 ev hst hD2.1 fun q => ⟨.inl, fun z => z.elim id fun e => absurd (c1.mpr e.2) (by rw [hc]; simp)⟩
            refine s_when (et_B (ev_foundP (ev_var rfl) (ev_var rfl) (ev_var rfl) (.inl (e5 _ _ hd4)))) (fun h2 H8 e8 => ?_) (fun h2 H8 e8 => ⟨_, _, _, _, rfl, (ex4.trans e5).trans e8, e8 _ _ (e5 _ _ hp4), e8 _ _ (e5 _ _ hd4), fin.2 (fun z => by rw [prevIn_iff.mpr z] at h2; cases h2)⟩)
            refine s_dputT (ks := kPt (v, s)) ev_c (ev_var rfl) (eu_pt (ev_var rfl) (ev_var rfl)) (e8 _ _ (e5 _ _ hd4)) (by rw [kvL_len]; omega) fun H9 e9 => ?_
            rw [kvL_put]
            exact ⟨_, _, _, _, rfl, ((ex4.trans e5).trans (e8.trans e9)).mut hd, (upd_ne pd).trans ((e5.trans (e8.trans e9)) _ _ hp4), upd_same, fin.1 (prevIn_iff.mp h2)⟩
      · rintro p σ' H2 ⟨y4, y5, y6, D, rfl, ex2, hp2, hd2, hD2⟩
        rw [List.length_map] at hD2
        exact ⟨_, _, _, _, D, rfl, ex2, hd2, hD2.turn (Nat.le_refl _)⟩
    · rintro σ' H' ⟨y3, y4, y5, y6, D, rfl, ex, hd', hD⟩
      rw [Int.toNat_natCast] at hD
      refine s_ret (ev_var rfl) fun H2 e2 => q d H2 D hd (ex.trans e2) (e2 _ _ hd') (hD.all (Nat.le_refl _)) (Nat.le_trans hD.few fewp)
end
end LKW

/-! What the law itself holds for enough, the candidates, the subsets. -/
namespace LKW
open PySem PySem.Spec PyProof.Rows L2 Evl

def spIsEnough : Sp := fun vs H Q _ => ∃ (b k : Addr) (rows : List LK.Row) (out : List Int) (ks : List LK.Pt), vs = [.ref b, .ref k] ∧ BookAt H b rows out ∧ PtsAt H k ks ∧ ∀ (r : Bool) H', Ex H H' → (r = true ↔ LK.Sys.Suff (LK.sysOf rows out) ks) → Q (.bl r) H'
def spCandidates : Sp := fun vs H Q _ => ∃ (b : Addr) (rows : List LK.Row) (out : List Int), vs = [.ref b] ∧ BookAt H b rows out ∧
  ∀ p H' cs, H p = none → Ex H H' → PtsAt H' p cs → cs.Nodup → (∀ q, q ∈ cs ↔ q ∈ (LK.sysOf rows out).points ∧ (LK.sysOf rows out).live q.1 q.2 = false) → Q (.ref p) H'
def SubsAt (H : Hp) (p : Addr) (cs : List LK.Pt) : Prop := ∃ as : List Addr, H p = some (.lst (as.map V.ref)) ∧ as.length ≤ 10000 ∧ ∀ a ∈ as, ∃ ks, PtsAt H a ks ∧ ks.Sublist cs
def spSubsets : Sp := fun vs H Q _ => ∃ (t : Addr) (cs : List LK.Pt), vs = [.ref t] ∧ PtsAt H t cs ∧ cs.length ≤ 12 ∧ ∀ p H', H p = none → Ex H H' → SubsAt H' p cs → Q (.ref p) H'

section
variable {P : Program} {w : World} {K : PySem.W.Frag} {mg : Str → Option Value} {base : Heap} {CN CS : Addr}
theorem lost_call {σ : L2.St} {H : Hp} {ta tb : TE} {E : XK} {b k : Addr} {rows : List LK.Row} {out : List Int} {ks : List LK.Pt} (h1 : Ev ta σ H (.ref b)) (h2 : Ev tb σ H (.ref k)) (hb : BookAt H b rows out) (hk : PtsAt H k ks) :
    EvN (tCall spLost [] E (tCons ta (tCons tb tNil))) σ H (fun d H' => ∃ D, H' d = some (.dT (kvL D)) ∧ LK.Sys.IsLost (LK.sysOf rows out) ks D ∧ D.length ≤ 12) :=
  ev_callN (ea_cons h1 (ea_cons h2 ea_nil)) fun H1 e Q q E => ⟨b, k, rows, out, ks, rfl, hb.ex e, hk.ex e, fun d H' D h3 h4 h5 h6 h7 => q d H' h3 h4 ⟨D, h5, h6, h7⟩⟩

theorem ok_IsEnough {f : Addr} {fd : FuncData} (F : Fun K "_law_is_enough" "_law_is_enough" sIsEnough f fd) (T : Txt K mg CN CS) (dLost : Df P w K mg base "_law_lost" PLost 3 (spLost)) : FnOk P w K mg base CX0 4 f fd PIsEnough (spIsEnough) := by
  refine F.ok scIsEnough (fun vs H Q E h => ?_) (fun cdv A outer s H vs Q E hr h => ?_)
  · obtain ⟨b, k, rows, out, ks, rfl, hb, hk, q⟩ := h
    rfl
  · obtain ⟨b, k, rows, out, ks, rfl, hb, hk, q⟩ := h
    have hu := hu_of hr
    refine ⟨_, (pss_cons (ps_set (i := 2) scIsEnough.nd rfl (.inr rfl) (pe_call dLost.G (hr.mono (by decide)) (by rfl) dLost.g dLost.kp dLost.b .nil pass0 (pa_cons (pv 0) (pa_cons (pv 1) pa_nil))))
      (pss_cons (ps_for PassesOwn.never rfl (pi_enum (by rfl) T.m_enumerate (pa_cons (pe_dget hu (pv 0) pe_str (fun _ _ => rfl)) pa_nil)) (pg_tup rfl (pgs_cons (pg_name (i := 3) scIsEnough.nd rfl (.inr rfl)) (pgs_cons (pg_name (i := 4) scIsEnough.nd rfl (.inl rfl)) pgs_nil))) (pss_one (ps_if (pt_cmpR (op_neD hr.units) (pe_lc (own := [("_law_value", 5)]) (g := gName 5) rfl scIsEnough.nd (pi_tup (pv 4)) (blkOk_by (own := [("_law_value", 5)]) (N := NIsEnough) (sc := defScope sIsEnough) (by decide +kernel)) (fun _ _ _ _ _ => (pg_name (i := 5) scIsEnough.nd rfl (.inl rfl))) (fun _ _ _ _ _ => (pts_one (pt_cmp (pc_din hu (pe_tup (pa_cons (pv 5) (pa_cons (pv 3) pa_nil))) (pv 2))))) (fun _ _ _ _ _ => (pv 5))) (pe_lst pa_nil) (nomark _)) (pss_one (ps_ret pe_bl)) pss_nil)))
      (pss_one (ps_ret pe_bl)))), ?_⟩
    have hB := hb
    obtain ⟨o, od, ad, st, ask, nd, ods, nk, ts, m, c, hn, g⟩ := hb
    have hsl := good_stops g
    refine q_asgN (lost_call (ev_var rfl) (ev_var rfl) hB hk) ?_
    rintro d H1 hd e1 ⟨D, h1, hD, hDl⟩
    refine q_forE (ev_bask (m.ex e1) (ev_var rfl)) (sq_of (m.ex e1).ask) (fun i σ' H' => ∃ y3 y4, σ' = [some (.ref b), some (.ref k), some (.ref d), y3, y4, none] ∧ Ex H H' ∧ H' d = some (.dT (kvL D)) ∧ ∀ s, s < i → ∀ v ∈ (LK.sysOf rows out).asks s, (v, s) ∉ D)
      (fun H2 e2 => ⟨none, none, rfl, e1.trans e2, e2 _ _ h1, fun s hs => by omega⟩) (fun i σ' H' _ ⟨_, _, _, ex, _⟩ => sq_of (m.ex ex).ask) ?_ ?_
    · rintro i x σ' H' Tp H2 hx ⟨y3, y4, rfl, ex, hd', hno⟩ hT eT h2
      rw [List.getElem?_map] at hx
      cases et : ts[i]? with
      | none => rw [et] at hx; cases hx
      | some t =>
        rw [et] at hx
        cases hx
        have il : i < (LK.askedL rows).length := by rw [← c.len]; exact (List.getElem?_eq_some_iff.mp et).1
        have hl := List.getElem?_eq_getElem il
        generalize (LK.askedL rows)[i] = l at hl
        have htl := c.asks i t l et hl
        have l3 := c.al l (List.mem_of_getElem? hl)
        have ea : (LK.sysOf rows out).asks i = l := by
          show (LK.askedL rows).getD i [] = l
          rw [List.getD_eq_getElem?_getD, hl]; rfl
        have ex2 := ex.trans eT
        refine g_two h2 ?_
        have eg := given_int (l := l) (n := (l.map V.int).length) (f := fun j => decide ((l.getD j 0, i) ∈ D)) (v := fun j => V.int (l.getD j 0)) (g := fun o => decide ((o, i) ∈ D)) (List.length_map ..)
          (fun j x h => by rw [List.getD_eq_getElem?_getD, h]; rfl) (fun j x h => by rw [List.getD_eq_getElem?_getD, h]; rfl)
        refine s_when (et_test (ev_neN (xs := (l.filter fun o => decide ((o, i) ∈ D)).map V.int) ?_ (fun H4 _ => dp_ints _) (shp_ints _))) (fun hne H5 e5 => ?_) (fun hne H5 e5 => ?_)
        · rw [← eg]
          refine el_lcT _ _ (ev_var rfl) (htl.ex ex2).sq (by rw [List.length_map]; omega) (fun _ => rfl) (fun j x H4 e4 hx => ?_) fun j x H4 e4 hx _ => ?_
          · rw [List.getElem?_map] at hx
            cases el : l[j]? with
            | none => rw [el] at hx; cases hx
            | some o' =>
              rw [el] at hx
              cases hx
              refine et_B (ev_is (ev_found (v := o') (s := i) (ev_var rfl) (ev_var rfl) (ev_var rfl) (.inl (e4 _ _ (eT _ _ hd')))) ?_)
              rw [List.getD_eq_getElem?_getD, el]; rfl
          · rw [List.getElem?_map] at hx
            cases el : l[j]? with
            | none => rw [el] at hx; cases hx
            | some o' =>
              rw [el] at hx
              cases hx
              refine ev_is (ev_var rfl) ?_
              rw [List.getD_eq_getElem?_getD, el]; rfl
        · refine s_ret ev_c fun H6 e6 => q false H6 (ex2.trans (e5.trans e6)) ⟨fun z => (nomatch z), fun hs => ?_⟩
          exfalso
          cases hf : l.filter fun o => decide ((o, i) ∈ D) with
          | nil => rw [hf] at hne; simp at hne
          | cons o r =>
            have := List.mem_filter.mp (show o ∈ l.filter fun o => decide ((o, i) ∈ D) by rw [hf]; exact List.mem_cons_self ..)
            refine hs i ?_ o (by rw [ea]; exact this.1) ((hD.2 o i).mp (of_decide_eq_true this.2))
            show i < (LK.stops rows).length
            rw [← LK.askedL_len]
            exact il
        · refine ⟨_, _, rfl, ex2.trans e5, e5 _ _ (eT _ _ hd'), fun s hs v hv hd => ?_⟩
          rcases Nat.lt_or_eq_of_le (Nat.le_of_lt_succ hs) with z | z
          · exact hno s z v hv hd
          · subst z
            rw [ea] at hv
            have : v ∈ l.filter fun o => decide ((o, s) ∈ D) := List.mem_filter.mpr ⟨hv, decide_eq_true hd⟩
            cases hf : l.filter fun o => decide ((o, s) ∈ D) with
            | nil => rw [hf] at this; simp at this
            | cons o r => rw [hf] at hne; simp at hne
    · rintro σ' H' ⟨y3, y4, rfl, ex, hd', hno⟩
      rw [List.length_map, c.len, LK.askedL_len] at hno
      exact s_ret ev_c fun H2 e2 => q true H2 (ex.trans e2) ⟨fun _ s hs v hv hl => hno s hs v hv ((hD.2 v s).mpr hl), fun _ => rfl⟩
end
def candRow (S : LK.Sys) (v : Int) (n : Nat) : List LK.Pt := ((List.range n).filter fun t => S.here v t && !S.live v t).map fun t => (v, t)
def candAll (S : LK.Sys) (l : List Int) : List LK.Pt := l.flatMap fun v => candRow S v S.stops.length
theorem candRow_mem {S : LK.Sys} {v : Int} {n : Nat} {q : LK.Pt} : q ∈ candRow S v n ↔ q.1 = v ∧ q.2 < n ∧ S.here v q.2 = true ∧ S.live v q.2 = false := by
  obtain ⟨a, t⟩ := q
  unfold candRow
  simp only [List.mem_map, List.mem_filter, List.mem_range, Bool.and_eq_true, Bool.not_eq_true', Prod.mk.injEq]
  constructor
  · rintro ⟨t', ⟨h1, h2, h3⟩, rfl, rfl⟩
    exact ⟨rfl, h1, h2, h3⟩
  · rintro ⟨rfl, h1, h2, h3⟩
    exact ⟨t, ⟨h1, h2, h3⟩, rfl, rfl⟩
theorem candRow_succ {S : LK.Sys} {v : Int} {n : Nat} : candRow S v (n + 1) = candRow S v n ++ (if S.here v n && !S.live v n then [(v, n)] else []) := by
  unfold candRow
  rw [List.range_succ, List.filter_append, List.map_append]
  congr 1
  cases h : (S.here v n && !S.live v n) <;> simp [h]
theorem candRow_nodup {S : LK.Sys} {v : Int} {n : Nat} : (candRow S v n).Nodup := by
  unfold candRow
  unfold List.Nodup
  rw [List.pairwise_map]
  exact List.Pairwise.imp (fun h q => h (by injection q)) (LK.Sys.nodup_filter List.nodup_range)
theorem candAll_nodup {S : LK.Sys} {l : List Int} (h : l.Nodup) : (candAll S l).Nodup := by
  unfold candAll
  unfold List.Nodup
  rw [List.pairwise_flatMap]
  refine ⟨fun v _ => candRow_nodup, List.Pairwise.imp (fun {a b} hab x hx y hy z => ?_) h⟩
  have h1 := (candRow_mem.mp hx).1
  have h2 := (candRow_mem.mp hy).1
  rw [z] at h1
  exact hab (h1.symm.trans h2)
theorem candAll_mem {S : LK.Sys} {q : LK.Pt} : q ∈ candAll S S.vals ↔ q ∈ S.points ∧ S.live q.1 q.2 = false := by
  obtain ⟨a, t⟩ := q
  unfold candAll
  rw [List.mem_flatMap, LK.Sys.mem_points]
  constructor
  · rintro ⟨v, hv, h⟩
    obtain ⟨h1, h2, h3, h4⟩ := candRow_mem.mp h
    have h1' : a = v := h1
    subst h1'
    exact ⟨⟨hv, h2, h3⟩, h4⟩
  · rintro ⟨⟨h1, h2, h3⟩, h4⟩
    exact ⟨a, h1, candRow_mem.mpr ⟨rfl, h2, h3, h4⟩⟩
theorem candAll_snoc {S : LK.Sys} {l : List Int} {v : Int} : candAll S (l ++ [v]) = candAll S l ++ candRow S v S.stops.length := by
  unfold candAll
  rw [List.flatMap_append]
  simp
theorem candRow_len {S : LK.Sys} {v : Int} {n : Nat} : (candRow S v n).length ≤ n := by
  unfold candRow
  rw [List.length_map]
  exact Nat.le_trans (List.length_filter_le _ _) (by rw [List.length_range]; exact Nat.le_refl _)
theorem candAll_len {S : LK.Sys} : ∀ l : List Int, (candAll S l).length ≤ l.length * S.stops.length
  | [] => by simp [candAll]
  | v :: l => by
    have h := candAll_len (S := S) l
    have r := candRow_len (S := S) (v := v) (n := S.stops.length)
    have e : candAll S (v :: l) = candRow S v S.stops.length ++ candAll S l := rfl
    rw [e, List.length_append, List.length_cons, Nat.add_mul]
    omega
section
variable {P : Program} {w : World} {K : PySem.W.Frag} {mg : Str → Option Value} {base : Heap} {CN CS : Addr}
theorem ok_Candidates {f : Addr} {fd : FuncData} (F : Fun K "_law_candidates" "_law_candidates" sCandidates f fd) (T : Txt K mg CN CS) (dIsLive : Df P w K mg base "_law_is_live" PIsLive 2 (spIsLive)) (dIsThere : Df P w K mg base "_law_is_there" PIsThere 1 (spIsThere)) : FnOk P w K mg base CX0 3 f fd PCandidates (spCandidates) := by
  refine F.ok scCandidates (fun vs H Q E h => ?_) (fun cdv A outer s H vs Q E hr h => ?_)
  · obtain ⟨b, rows, out, rfl, hb, q⟩ := h
    rfl
  · obtain ⟨b, rows, out, rfl, hb, q⟩ := h
    have hu := hu_of hr
    refine ⟨_, (pss_cons (ps_set (i := 1) scCandidates.nd rfl (.inl rfl) (pe_lst pa_nil))
      (pss_cons (ps_for PassesOwn.never rfl (pi_list (pe_dget hu (pv 0) pe_str (fun _ _ => rfl))) (pg_name (i := 2) scCandidates.nd rfl (.inl rfl)) (pss_one (ps_for PassesOwn.never rfl (pi_range1 (by rfl) T.m_range (pa_cons (pe_callB call_len_seq (by rfl) T.m_len (by decide +kernel) (pa_cons (pe_dget hu (pv 0) pe_str (fun _ _ => rfl)) pa_nil)) pa_nil)) (pg_name (i := 3) scCandidates.nd rfl (.inl rfl)) (pss_one (ps_if (PW.pt (pw_and (pt_val (pe_call dIsThere.G (hr.mono (by decide)) (by rfl) dIsThere.g dIsThere.kp dIsThere.b .nil pass0 (pa_cons (pv 0) (pa_cons (pv 2) (pa_cons (pv 3) pa_nil))))) (pw_and1 (pt_not (pt_val (pe_call dIsLive.G (hr.mono (by decide)) (by rfl) dIsLive.g dIsLive.kp dIsLive.b .nil pass0 (pa_cons (pv 0) (pa_cons (pv 2) (pa_cons (pv 3) pa_nil))))))))) (pss_one (ps_expr (pe_bm PySem.F.plainAttrs_list PySem.F.slot_list_append PySem.F.type_list_append mt_append (pv 1) (pa_cons (pe_tup (pa_cons (pv 2) (pa_cons (pv 3) pa_nil))) pa_nil)))) pss_nil)))))
      (pss_one (ps_ret (pv 1))))), ?_⟩
    have hB := hb
    obtain ⟨o, od, ad, st, ask, nd, ods, nk, ts, m, c, hn, g⟩ := hb
    have hsl := good_stops g
    have hol := good_rl g
    generalize hS : LK.sysOf rows out = S at q
    have hst : S.stops = LK.stops rows := by rw [← hS]; rfl
    have hvl : S.vals = LK.order rows := by rw [← hS]; rfl
    have cl : ∀ l : List Int, l.length ≤ 20 → (candAll S l).length ≤ 400 := fun l hl => by
      have h1 := candAll_len (S := S) l
      have h2 : l.length * S.stops.length ≤ 20 * 20 := Nat.mul_le_mul hl (by rw [hst]; exact hsl)
      omega
    refine q_asgL (xs := []) (el_lst ea_nil (Nat.zero_le _)) fun p H1 hp e1 h1 => ?_
    refine q_forLn (ev_bo (m.ex e1) (ev_var rfl)) (sq_of (m.ex e1).o) (fun i σ' H' => ∃ y2 y3 as, σ' = [some (.ref b), some (.ref p), y2, y3] ∧ Ex H H' ∧ H' p = some (.lst (as.map V.ref)) ∧ PtsBy H' as (candAll S ((LK.order rows).take i)))
      (fun H2 e2 => ⟨none, none, [], rfl, e1.trans e2, e2 _ _ h1, ⟨rfl, fun i b p h => by simp at h⟩⟩) (fun i σ' H' _ ⟨_, _, _, _, ex, _⟩ => sq_of (m.ex ex).o) ?_ ?_
    · rintro i x σ' H' hx ⟨y2, y3, as, rfl, ex, hp', hby⟩
      rw [List.getElem?_map] at hx
      cases ev : (LK.order rows)[i]? with
      | none => rw [ev] at hx; cases hx
      | some v =>
        rw [ev] at hx
        cases hx
        have hv := List.mem_of_getElem? ev
        have tl : ((LK.order rows).take i).length ≤ 20 := by rw [List.length_take]; omega
        refine s_forR1 (n := ((LK.stops rows).length : Int)) (ea_cons (ev_is (ev_len (ev_bst (m.ex ex) (ev_var rfl)) (sq_of (m.ex ex).st)) (by rw [List.length_map])) ea_nil) ⟨by omega, by omega⟩
          (fun s σ' H' => ∃ y3 as, σ' = [some (.ref b), some (.ref p), some (.int v), y3] ∧ Ex H H' ∧ H' p = some (.lst (as.map V.ref)) ∧ PtsBy H' as (candAll S ((LK.order rows).take i) ++ candRow S v s)) ?_ ?_ ?_
        · intro H2 e2
          exact ⟨_, as, rfl, ex.trans e2, e2 _ _ hp', by
            show PtsBy H2 as (candAll S ((LK.order rows).take i) ++ [])
            rw [List.append_nil]
            exact hby.ex e2⟩
        · rintro s σ' H2 hs' ⟨y3, as, rfl, ex2, hp2, hby2⟩
          have hs : s < (LK.stops rows).length := by omega
          have asl : as.length ≤ 420 := by
            have h3 := candRow_len (S := S) (v := v) (n := s)
            have h4 := cl _ tl
            rw [hby2.1, List.length_append]
            omega
          refine s_when (b := S.here v s && !S.live v s) (et_and (et_B (by rw [← hS]; exact there_call (v := v) (ev_var rfl) (ev_var rfl) (ev_var rfl) (hB.ex ex2) hv hs)) fun _ => et_not (et_B (by rw [← hS]; exact live_call (v := v) (ev_var rfl) (ev_var rfl) (ev_var rfl) (hB.ex ex2) hv hs))) (fun hc H3 e3 => ?_) (fun hc H3 e3 => ?_)
          · refine s_appU (e3 _ _ hp2) (ev_var rfl) (eu_tup (vs := [.int v, .int (s : Nat)]) (ea_cons (ev_var rfl) (ea_cons (ev_var rfl) ea_nil)) (show 2 ≤ 100000 by decide)) (by rw [List.length_map]; omega) fun t H4 ht e4 h4 => ?_
            have ptk : IsPt H4 t (v, s) := h4
            have hp4 := e4 _ _ (e3 _ _ hp2)
            refine ⟨_, as ++ [t], rfl, (ex2.trans (e3.trans e4)).mut hp, by rw [upd_same, List.map_append]; rfl, ?_⟩
            rw [candRow_succ, hc, if_pos rfl, ← List.append_assoc]
            exact PtsBy.keep (((hby2.ex (e3.trans e4))).snoc ptk) fun c xs hc => tup_keep hp4 hc
          · refine ⟨_, as, rfl, ex2.trans e3, e3 _ _ hp2, ?_⟩
            rw [candRow_succ, hc]
            simpa using hby2.ex e3
        · rintro σ' H2 ⟨y3, as, rfl, ex2, hp2, hby2⟩
          refine ⟨_, _, as, rfl, ex2, hp2, ?_⟩
          rw [Int.toNat_natCast, ← hst] at hby2
          rw [take_row ev, candAll_snoc]
          exact hby2
    · rintro σ' H' ⟨y2, y3, as, rfl, ex, hp', hby⟩
      rw [List.length_map, List.take_length, ← hvl] at hby
      refine s_ret (ev_var rfl) fun H2 e2 => q p H2 _ hp (ex.trans e2) ⟨as, e2 _ _ hp', hby.ex e2⟩ (candAll_nodup ?_) fun q => candAll_mem
      rw [← hS]
      exact (LK.wf_sysOf (out := out) g.valid).nodup
end
end LKW

/-! What the law itself holds for the subsets. -/
namespace LKW
open PySem PySem.Spec PyProof.Rows L2 Evl
section
variable {P : Program} {w : World} {K : PySem.W.Frag} {mg : Str → Option Value} {base : Heap} {CN CS : Addr}
def SubP (cs : List LK.Pt) (H : Hp) (a : Addr) : Prop := ∃ ks, PtsAt H a ks ∧ ks.Sublist cs
theorem SubP.ex {cs : List LK.Pt} {H H' : Hp} {a : Addr} (h : SubP cs H a) (e : Ex H H') : SubP cs H' a := let ⟨ks, h1, h2⟩ := h; ⟨ks, h1.ex e, h2⟩
section
variable {σ : L2.St} {H : Hp} {ta tb te : TE}
theorem en_lst1 {xs : List V} (h : EvL te σ H xs) : EvN (tLst (tCons te tNil)) σ H (fun p H' => ∃ l, H' p = some (.lst [.ref l]) ∧ H' l = some (.lst xs)) := fun H0 e0 Q q =>
  h H0 e0 _ fun l H1 hl e1 h1 => ⟨sz_of (show 1 ≤ 100000 by decide), fun p hp => q p _ (fresh_back e1 hp) (e1.trans (Ex.new hp)) ⟨l, upd_same, Ex.new hp _ _ h1⟩⟩
theorem en_cat {f : Addr} {xs : List V} {PB : Addr → Hp → Prop} (ha : Ev ta σ H (.ref f)) (hf : H f = some (.lst xs)) (hb : EvN tb σ H PB) (hpb : ∀ L H2, PB L H2 → ∃ ys, H2 L = some (.lst ys) ∧ xs.length + ys.length ≤ 100000) :
    EvN (tOp rCat ta tb) σ H (fun r H' => ∃ H2 L ys, Ex H H2 ∧ PB L H2 ∧ H2 L = some (.lst ys) ∧ Ex H2 H' ∧ H' r = some (.lst (xs ++ ys))) := fun H0 e0 Q q =>
  ha H0 e0 _ fun H1 e1 => hb H1 (e0.trans e1) _ fun L H2 _ e2 hL => by
    obtain ⟨ys, h1, h2⟩ := hpb L H2 hL
    exact ⟨f, L, xs, ys, rfl, rfl, ((e0.trans e1).trans e2) _ _ hf, h1, sz_of h2, fun r hr => q r _ (fresh_back (e1.trans e2) hr) ((e1.trans e2).trans (Ex.new hr)) ⟨H2, L, ys, (e0.trans e1).trans e2, hL, h1, Ex.new hr, upd_same⟩⟩
theorem EvN.imp {P P' : Addr → Hp → Prop} (h : EvN te σ H P) (hi : ∀ p H', Ex H H' → P p H' → P' p H') : EvN te σ H P' := fun H1 e Q q => h H1 e Q fun p H2 a b c => q p H2 a b (hi p H2 (e.trans b) c)
end

theorem ok_Subsets {f : Addr} {fd : FuncData} (F : Fun K "_law_subsets" "_law_subsets" sSubsets f fd) (T : Txt K mg CN CS)  : FnOk P w K mg base CX0 1 f fd PSubsets (spSubsets) := by
  refine F.ok scSubsets (fun vs H Q E h => ?_) (fun cdv A outer s H vs Q E hr h => ?_)
  · obtain ⟨t, cs, rfl, ⟨as, ht, hby⟩, hc, q⟩ := h
    rfl
  · obtain ⟨t, cs, rfl, ⟨as, ht, hby⟩, hc, q⟩ := h
    refine ⟨_, (pss_cons (ps_set (i := 1) scSubsets.nd rfl (.inl rfl) (pe_lst (pa_cons (pe_lst pa_nil) pa_nil)))
      (pss_cons (ps_for PassesOwn.never rfl (pi_list (pv 0)) (pg_name (i := 2) scSubsets.nd rfl (.inr rfl)) (pss_one (ps_set (i := 1) scSubsets.nd rfl (.inl rfl) (pe_op op_cat (pv 1) (pe_lc (te := tOp rCat (tVar 3) (tLst (tCons (tVar 2) tNil))) (own := [("_law_some_here", 3)]) (g := gName 3) (tt := tYes) rfl scSubsets.nd (pi_list (pv 1)) (blkOk_by (own := [("_law_some_here", 3)]) (N := NSubsets) (sc := defScope sSubsets) (by decide +kernel)) (fun _ _ _ _ _ => (pg_name (i := 3) scSubsets.nd rfl (.inl rfl))) (fun _ _ _ _ _ => pts_nil) (fun _ _ _ _ _ => (pe_op op_cat (pv 3) (pe_lst (pa_cons (pv 2) pa_nil)))))))))
      (pss_one (ps_ret (pv 1))))), ?_⟩
    have hlen := hby.1
    refine q_asgN (P := fun p H' => ∃ l : Addr, H' p = some (.lst [.ref l]) ∧ H' l = some (.lst [])) ?_ ?_
    · exact en_lst1 (el_lst ea_nil (Nat.zero_le _))
    rintro f0 H1 hf0 e1 ⟨l0, hf1, hl0⟩
    refine q_forLn (ev_var rfl) (sq_of (e1 _ _ ht)) (fun i σ' H' => ∃ y2 f fs, σ' = [some (.ref t), some (.ref f), y2, none] ∧ Ex H H' ∧ H f = none ∧ H' f = some (.lst (fs.map V.ref)) ∧ fs.length = 2 ^ i ∧ ∀ a ∈ fs, SubP (cs.take i) H' a)
      (fun H2 e2 => ⟨none, f0, [l0], rfl, e1.trans e2, hf0, e2 _ _ hf1, rfl, fun a ha => by
        rcases List.mem_singleton.mp ha with rfl
        exact ⟨[], ⟨[], e2 _ _ hl0, rfl, fun i b p h => by simp at h⟩, List.nil_sublist _⟩⟩) (fun i σ' H' _ ⟨_, _, _, _, ex, _⟩ => sq_of (ex _ _ ht)) ?_ ?_
    · rintro i x σ' H' hx ⟨y2, f, fs, rfl, ex, hf, hf', lf, hfs⟩
      obtain ⟨pa, pt, rfl, hpa, hpt, hip⟩ := hby.item hx
      have hi : i < cs.length := (List.getElem?_eq_some_iff.mp hpt).1
      have tk := take_row hpt
      have l12 : fs.length ≤ 2048 := by
        rw [lf]
        exact Nat.le_trans (Nat.pow_le_pow_right (by decide) (show i ≤ 11 by omega)) (by decide)
      refine s_asgN (P := fun p H2 => ∃ gs : List Addr, H2 p = some (.lst (gs.map V.ref)) ∧ gs.length = 2 ^ (i + 1) ∧ ∀ a ∈ gs, SubP (cs.take (i + 1)) H2 a) ?_ ?_
      · refine EvN.imp (en_cat (PB := LcOut H' (fun _ a H5 => SubP (cs.take (i + 1)) H5 a) (fs.map V.ref).length) (ev_var rfl) hf' (en_lcL (H := H') (xs := fs.map V.ref) (fun _ a H5 => SubP (cs.take (i + 1)) H5 a) (ev_var rfl) (sq_of hf') (by rw [List.length_map]; omega) (fun _ => rfl) (fun j a H5 ⟨ks, ⟨bs, hb, _⟩, _⟩ z => by rw [hb] at z; cases z) (fun j a H5 H6 e h => h.ex e) (fun L j a H5 xs ys ex5 hL hL5 hne ⟨ks, ⟨bs, hb, hbb⟩, hs⟩ => ⟨ks, ⟨bs, (upd_ne hne).trans hb, hbb.keep fun c zs hc => tup_keep hL5 hc⟩, hs⟩) ?_) ?_) ?_
        · intro j y H5 e5 hy
          rw [List.getElem?_map] at hy
          cases ej : fs[j]? with
          | none => rw [ej] at hy; cases hy
          | some a =>
            rw [ej] at hy
            cases hy
            obtain ⟨ks, ⟨bs, hb, hbb⟩, hs⟩ := (hfs a (List.mem_of_getElem? ej)).ex e5
            have kl := hs.length_le
            rw [List.length_take] at kl
            refine EvN.imp (en_cat (PB := fun L H2 => H2 L = some (.lst [.ref pa])) (ev_var rfl) hb (EvL.toN (el_lst (vs := [.ref pa]) (ea_cons (ev_var rfl) ea_nil) (show 1 ≤ 100000 by decide))) fun L H2 hL => ⟨_, hL, by rw [List.length_map, hbb.1]; show ks.length + 1 ≤ 100000; omega⟩) ?_
            rintro r H6 e6 ⟨H2, L, ys, e2, hL, hL', er, hr⟩
            rw [hL] at hL'
            cases hL'
            exact ⟨ks ++ [pt], ⟨bs ++ [pa], by rw [hr, List.map_append]; rfl, (hbb.ex e6).snoc ((ex.trans (e5.trans e6)) _ _ hip)⟩, by rw [tk]; exact hs.append (List.Sublist.refl _)⟩
        · rintro L H2 ⟨ps, hps, lps, _⟩
          exact ⟨_, hps, by rw [List.length_map, List.length_map, lps, List.length_map]; omega⟩
        · rintro r H6 e6 ⟨H2, L, ys, e2, ⟨ps, hps, lps, hpp, _, _⟩, hL', er, hr⟩
          rw [hps] at hL'
          cases hL'
          refine ⟨fs ++ ps, by rw [hr, List.map_append], by rw [List.length_append, lps, List.length_map, lf, Nat.pow_succ]; omega, fun a ha => ?_⟩
          rcases List.mem_append.mp ha with ha | ha
          · obtain ⟨ks, h1, h2⟩ := (hfs a ha).ex e6
            exact ⟨ks, h1, h2.trans (by rw [tk]; exact List.sublist_append_left _ _)⟩
          · obtain ⟨j, hj⟩ := List.getElem?_of_mem ha
            exact (hpp j a hj).ex er
      · rintro g H2 hg e2 ⟨gs, hgs, lg, hgp⟩
        exact ⟨_, g, gs, rfl, ex.trans e2, fresh_back ex hg, hgs, lg, hgp⟩
    · rintro σ' H' ⟨y2, f, fs, rfl, ex, hf, hf', lf, hfs⟩
      rw [List.length_map, hlen] at lf hfs
      rw [List.take_length] at hfs
      refine s_ret (ev_var rfl) fun H2 e2 => q f H2 hf (ex.trans e2) ⟨fs, e2 _ _ hf', ?_, fun a ha => (hfs a ha).ex e2⟩
      rw [lf]
      exact Nat.le_trans (Nat.pow_le_pow_right (by decide) hc) (by decide)
end
end LKW

/-! What the law asks of a stretch. -/
namespace LKW
open PySem PySem.Spec PyProof.Rows L2 Evl
noncomputable def sufB (S : LK.Sys) (ks : List LK.Pt) : Bool := @decide (LK.Sys.Suff S ks) (Classical.propDecidable _)
theorem sufB_iff {S : LK.Sys} {ks : List LK.Pt} : sufB S ks = true ↔ LK.Sys.Suff S ks := by
  unfold sufB
  exact @decide_eq_true_iff _ (Classical.propDecidable _)
noncomputable def permB (a b : List LK.Pt) : Bool := @decide (a.Perm b) (Classical.propDecidable _)
theorem permB_iff {a b : List LK.Pt} : permB a b = true ↔ a.Perm b := by
  unfold permB
  exact @decide_eq_true_iff _ (Classical.propDecidable _)
def spRight : Sp := fun vs H Q _ => ∃ (a o : Addr) (rows : List LK.Row) (out : List Int), vs = [.ref a, .ref o] ∧ RowsAt H a rows ∧ H o = some (.lst (out.map V.int)) ∧ Good rows out ∧ (∀ r ∈ rows, RowFits r) ∧ RetV (.bl true) H Q
def SortedOf (ks : List LK.Pt) (r : Addr) (H : Hp) : Prop := ∃ ks', PtsAt H r ks' ∧ ks'.Perm ks ∧ ks'.Pairwise SLe
theorem PtsBy.take {H : Hp} {as : List Addr} {ps : List LK.Pt} (h : PtsBy H as ps) (n : Nat) : PtsBy H (as.take n) (ps.take n) := by
  refine ⟨by rw [List.length_take, List.length_take, h.1], fun i b p h1 h2 => ?_⟩
  rw [List.getElem?_take] at h1 h2
  split at h1
  · rename_i hn
    rw [if_pos hn] at h2
    exact h.2 i b p h1 h2
  · cases h1
theorem cut_take {α : Type} (f : α → V) (xs : List α) (i : Nat) : cutV (xs.map f) none (some (i : Int)) = (xs.take i).map f := by
  unfold cutV
  rw [HT.sIx_none, HT.sIx_nat, List.drop_zero, Nat.sub_zero, List.length_map, List.map_take]
  rcases Nat.le_total i xs.length with h | h
  · rw [Nat.min_eq_left h]
  · rw [Nat.min_eq_right h, List.take_of_length_le (by rw [List.length_map]; exact Nat.le_refl _), List.take_of_length_le (by rw [List.length_map]; exact h)]
theorem given_none (n : Nat) (v : Nat → V) : given n (fun _ => false) v = [] := by
  induction n with
  | zero => rfl
  | succ n ih => rw [given_no rfl, ih]
section
variable {P : Program} {w : World} {K : PySem.W.Frag} {mg : Str → Option Value} {base : Heap} {CN CS : Addr}
section
variable {σ : L2.St} {H : Hp} {ta tb tc td te : TE} {D : Ends} {tz : TS}
theorem el_nil (n : Nat) (v : Nat → V) (h : EvL te σ H (given n (fun _ => false) v)) : EvL te σ H [] := by
  rw [given_none] at h
  exact h
theorem en_sorted {p : Addr} {ks : List LK.Pt} (ha : Ev ta σ H (.ref p)) (hk : PtsAt H p ks) : EvN (tCB (rSortedPO K) (tCons ta tNil)) σ H (SortedOf ks) := fun H0 e0 Q q => ha H0 e0 _ fun H1 e1 => by
  obtain ⟨bs, hb, hby⟩ := hk.ex (e0.trans e1)
  refine ⟨p, bs.map V.ref, ptK H1, rfl, sq_of hb, fun x hx => ?_, fun ys r hs hst hr => ?_⟩
  · obtain ⟨i, hi⟩ := List.getElem?_of_mem hx
    obtain ⟨b, pt, rfl, _, _, hpt⟩ := hby.item hi
    refine ⟨b, rfl, ?_⟩
    rw [ptK_at hpt]
    exact hpt
  · obtain ⟨ey, hb2, hperm, hsort⟩ := sorted_pts hby hs hst.perm
    have eN := Ex.new (o := .lst ys) hr
    exact q r _ (fresh_back e1 hr) (e1.trans eN) ⟨ys.map (ptOf H1), ⟨ys.map unref, by rw [upd_same, ← ey], hb2.ex eN⟩, hperm, hsort⟩
/-- a != b, b new -/
theorem ev_neR {p : Addr} {ks : List LK.Pt} {R : List LK.Pt → Prop} {b : Bool} (ha : Ev ta σ H (.ref p)) (hk : PtsAt H p ks) (hb : EvN tb σ H (fun r H' => ∃ ks', PtsAt H' r ks' ∧ R ks')) (hd : ∀ ks', R ks' → decide (ks = ks') = b) : Ev (tOp (rNeD K) ta tb) σ H (.bl (!b)) := fun H1 e Q q =>
  ha H1 e _ fun H2 e2 => hb H2 (e.trans e2) _ fun r H3 _ e3 ⟨ks', h1, h2⟩ => ⟨.list (ks.map dPt), .list (ks'.map dPt), dp_pts (hk.ex ((e.trans e2).trans e3)), dp_pts h1, shp_pts _, shp_pts _, by
    rw [eqv_pts, hd ks' h2]
    exact q H3 (e2.trans e3)⟩
theorem ev_neL {p : Addr} {ks : List LK.Pt} {R : List LK.Pt → Prop} {b : Bool} (hb : EvN tb σ H (fun r H' => ∃ ks', PtsAt H' r ks' ∧ R ks')) (ha : Ev ta σ H (.ref p)) (hk : PtsAt H p ks) (hd : ∀ ks', R ks' → decide (ks' = ks) = b) : Ev (tOp (rNeD K) tb ta) σ H (.bl (!b)) := fun H1 e Q q =>
  hb H1 e _ fun r H2 _ e2 ⟨ks', h1, h2⟩ => ha H2 (e.trans e2) _ fun H3 e3 => ⟨.list (ks'.map dPt), .list (ks.map dPt), dp_pts (h1.ex e3), dp_pts (hk.ex ((e.trans e2).trans e3)), shp_pts _, shp_pts _, by
    rw [eqv_pts, hd ks' h2]
    exact q H3 (e2.trans e3)⟩
theorem ev_eqL {p : Addr} {ks : List LK.Pt} {R : List LK.Pt → Prop} {b : Bool} (hb : EvN tb σ H (fun r H' => ∃ ks', PtsAt H' r ks' ∧ R ks')) (ha : Ev ta σ H (.ref p)) (hk : PtsAt H p ks) (hd : ∀ ks', R ks' → decide (ks' = ks) = b) : Ev (tOp (rEqD K) tb ta) σ H (.bl b) := fun H1 e Q q =>
  hb H1 e _ fun r H2 _ e2 ⟨ks', h1, h2⟩ => ha H2 (e.trans e2) _ fun H3 e3 => ⟨.list (ks'.map dPt), .list (ks.map dPt), dp_pts (h1.ex e3), dp_pts (hk.ex ((e.trans e2).trans e3)), shp_pts _, shp_pts _, by
    rw [eqv_pts, hd ks' h2]
    exact q H3 (e2.trans e3)⟩
theorem ev_ptNotR {b k : Addr} {p : LK.Pt} {ks : List LK.Pt} (h1 : Ev ta σ H (.ref b)) (hb : IsPt H b p) (h2 : Ev td σ H (.ref k)) (hk : PtsAt H k ks) : Ev (tOp (rNotInD K) ta td) σ H (.bl (!decide (p ∈ ks))) := fun H1 e Q q =>
  h1 H1 e _ fun H2 e2 => h2 H2 (e.trans e2) _ fun H3 e3 => ⟨dPt p, ks.map dPt, dp_pt (((e.trans e2).trans e3) _ _ hb), dp_pts (hk.ex ((e.trans e2).trans e3)), shp_pt _, shp_pts _, by
    rw [any_pt]
    exact q H3 (e2.trans e3)⟩
theorem ev_ptIn {b : Addr} {p : LK.Pt} {as : List Addr} {ks : List LK.Pt} (h1 : Ev ta σ H (.ref b)) (hb : IsPt H b p) (h2 : EvL td σ H (as.map V.ref)) (hk : PtsBy H as ks) : Ev (tOp (rInD K) ta td) σ H (.bl (decide (p ∈ ks))) := fun H1 e Q q =>
  h1 H1 e _ fun H2 e2 => h2 H2 (e.trans e2) _ fun r H3 _ e3 hr => ⟨dPt p, ks.map dPt, dp_pt (((e.trans e2).trans e3) _ _ hb), dp_pts ⟨as, hr, hk.ex ((e.trans e2).trans e3)⟩, shp_pt _, shp_pts _, by
    rw [any_pt]
    exact q H3 (e2.trans e3)⟩
theorem ev_lenPts {a : Addr} {ks : List LK.Pt} (h : Ev ta σ H (.ref a)) (hk : PtsAt H a ks) : Ev (tCB (rLenS K) (tCons ta tNil)) σ H (.int (ks.length : Nat)) := by
  obtain ⟨bs, h1, h2⟩ := hk
  exact ev_is (ev_len h (sq_of h1)) (by rw [List.length_map, h2.1])
theorem ev_lenD {d : Addr} {kvs : List (List Key × V)} (h : Ev ta σ H (.ref d)) (hd : H d = some (.dT kvs)) : Ev (tCB rLenT (tCons ta tNil)) σ H (.int ((kvs.length : Nat) : Int)) := fun H1 e Q q =>
  h H1 e _ fun H2 e2 => ⟨d, kvs, rfl, (e.trans e2) _ _ hd, q H2 e2⟩
theorem enough_call {E : XK} {b k : Addr} {rows : List LK.Row} {out : List Int} {ks : List LK.Pt} (h1 : Ev ta σ H (.ref b)) (h2 : Ev tb σ H (.ref k)) (hb : BookAt H b rows out) (hk : PtsAt H k ks) :
    Ev (tCall spIsEnough [] E (tCons ta (tCons tb tNil))) σ H (.bl (sufB (LK.sysOf rows out) ks)) :=
  ev_call (ea_cons h1 (ea_cons h2 ea_nil)) fun H1 e Q q E => ⟨b, k, rows, out, ks, rfl, hb.ex e, hk.ex e, fun r H' ex hr => by
    have : r = sufB (LK.sysOf rows out) ks := Bool.eq_iff_iff.mpr (hr.trans sufB_iff.symm)
    rw [this]
    exact q H' ex⟩
theorem en_tup2 {P1 P2 : Addr → Hp → Prop} (h1 : EvN ta σ H P1) (h2 : EvN tb σ H P2) (m1 : ∀ x H1 H2, Ex H1 H2 → P1 x H1 → P1 x H2) (m2 : ∀ x H1 H2, Ex H1 H2 → P2 x H1 → P2 x H2) :
    EvN (tTup (tCons ta (tCons tb tNil))) σ H (fun t H' => ∃ x y, H' t = some (.tup [.ref x, .ref y]) ∧ P1 x H' ∧ P2 y H' ∧ H x = none ∧ H y = none) := fun H0 e0 Q q =>
  h1 H0 e0 _ fun x H1 hx e1 p1 => h2 H1 (e0.trans e1) _ fun y H2 hy e2 p2 => ⟨sz_of (show 2 ≤ 100000 by decide), fun t ht =>
    q t _ (fresh_back (e1.trans e2) ht) ((e1.trans e2).trans (Ex.new ht)) ⟨x, y, upd_same, m1 _ _ _ (e2.trans (Ex.new ht)) p1, m2 _ _ _ (Ex.new ht) p2, fresh_back e0 hx, fresh_back (e0.trans e1) hy⟩⟩
theorem q_par2R {i j : Nat} {ts : TA} (h : ts σ H fun vs H1 => ∃ u v, vs = [u, v] ∧ tz D ((σ.set i (some u)).set j (some v)) H1) : tSeq (tPar i j ts) tz D σ H := h
theorem make_run {E : XK} {a o : Addr} {rows : List LK.Row} {out : List Int} {Q : VK} (h1 : Ev ta σ H (.ref a)) (h2 : Ev tb σ H (.ref o)) (hR : RowsAt H a rows) (ho : H o = some (.lst (out.map V.int))) (hg : Good rows out) (hf : ∀ r ∈ rows, RowFits r)
    (k : ∀ x H', Ex H H' → StU CS H' x rows out → Q (.ref x) H') : tMake CS (spStretchInit CS) [] E (tCons ta (tCons tb tNil)) σ H Q :=
  (ea_cons h1 (ea_cons h2 ea_nil)) H (Ex.refl H) _ fun H1 e1 x dx hx hdx nd =>
    ⟨H1, x, dx, a, o, rows, out, rfl, (Ex.new hdx).mut hx, hx, upd_same, hR.ex e1, e1 _ _ ho, hg, hf, fun H' e hS => ⟨rfl, k x H' (e1.trans e) hS⟩⟩
theorem en_book {E : XK} {a o : Addr} {rows : List LK.Row} {out : List Int} (h1 : Ev ta σ H (.ref a)) (h2 : Ev tb σ H (.ref o)) (hR : RowsAt H a rows) (ho : H o = some (.lst (out.map V.int))) (hg : Good rows out) (hf : ∀ r ∈ rows, RowFits r) :
    EvN (tCall spBook [] E (tCons ta (tCons tb tNil))) σ H (fun b H' => BookAt H' b rows out) :=
  ev_callN (ea_cons h1 (ea_cons h2 ea_nil)) fun H1 e Q q E => ⟨a, o, rows, out, rfl, hR.ex e, e _ _ ho, hg, hf, q⟩
theorem en_least {E : XK} {x : Addr} {rows : List LK.Row} {out : List Int} (h1 : Ev ta σ H (.ref x)) (hS : StU CS H x rows out) : EvN (tCall (spLeastKeeps CS) [] E (tCons ta tNil)) σ H (fun p H' => ∃ ks, PtsAt H' p ks ∧ LK.Sys.Least (LK.sysOf rows out) ks ∧ ks.Pairwise SLe) :=
  ev_callN (ea_cons h1 ea_nil) fun H1 e Q q E => ⟨x, rows, out, rfl, hS.ex e, fun p H' ks h1 h2 h3 h4 h5 => q p H' h1 h2 ⟨ks, h3, h4, h5⟩⟩
theorem en_cands {E : XK} {b : Addr} {rows : List LK.Row} {out : List Int} (h1 : Ev ta σ H (.ref b)) (hB : BookAt H b rows out) : EvN (tCall spCandidates [] E (tCons ta tNil)) σ H (fun p H' => ∃ cs, PtsAt H' p cs ∧ cs.Nodup ∧ ∀ q, q ∈ cs ↔ q ∈ (LK.sysOf rows out).points ∧ (LK.sysOf rows out).live q.1 q.2 = false) :=
  ev_callN (ea_cons h1 ea_nil) fun H1 e Q q E => ⟨b, rows, out, rfl, hB.ex e, fun p H' cs h1 h2 h3 h4 h5 => q p H' h1 h2 ⟨cs, h3, h4, h5⟩⟩
theorem en_subs {E : XK} {t : Addr} {cs : List LK.Pt} (h1 : Ev ta σ H (.ref t)) (hc : PtsAt H t cs) (hl : cs.length ≤ 12) : EvN (tCall spSubsets [] E (tCons ta tNil)) σ H (fun p H' => SubsAt H' p cs) :=
  ev_callN (ea_cons h1 ea_nil) fun H1 e Q q E => ⟨t, cs, rfl, hc.ex e, hl, q⟩
end

theorem ok_Right {f : Addr} {fd : FuncData} (F : Fun K "_law_right" "_law_right" sRight f fd) (T : Txt K mg CN CS) (dBook : Df P w K mg base "_law_book" PBook 1 (spBook)) (dCandidates : Df P w K mg base "_law_candidates" PCandidates 3 (spCandidates)) (dIsEnough : Df P w K mg base "_law_is_enough" PIsEnough 4 (spIsEnough)) (dLeastKeeps : Df P w K mg base "least_keeps" PLeastKeeps 7 (spLeastKeeps CS)) (dLost : Df P w K mg base "_law_lost" PLost 3 (spLost)) (dSubsets : Df P w K mg base "_law_subsets" PSubsets 1 (spSubsets)) (kStretch : Mc P w K mg base CS "Stretch" PStretchInit 5 (spStretchInit CS)) : FnOk P w K mg base CX0 8 f fd PRight (spRight) := by
  refine F.ok scRight (fun vs H Q E h => ?_) (fun cdv A outer s H vs Q E hr h => ?_)
  · obtain ⟨a, o, rows, out, rfl, hR, ho, hg, hfit, q⟩ := h
    rfl
  · obtain ⟨a, o, rows, out, rfl, hR, ho, hg, hfit, q⟩ := h
    have hu := hu_of hr
    refine ⟨_, (pss_cons (ps_par (i := 2) (j := 3) (by rfl) scRight.nd rfl rfl (by decide) rfl rfl (pa_cons (pe_call dBook.G (hr.mono (by decide)) (by rfl) dBook.g dBook.kp dBook.b .nil pass0 (pa_cons (pv 0) (pa_cons (pv 1) pa_nil))) (pa_cons (pe_make kStretch.M kStretch.G (hr.mono (by decide)) (by rfl) kStretch.g kStretch.b .nil pass0 (pa_cons (pv 0) (pa_cons (pv 1) pa_nil))) pa_nil)) (by rfl))
      (pss_cons (ps_asg (pe_tup (pa_cons (pe_call dLeastKeeps.G (hr.mono (by decide)) (by rfl) dLeastKeeps.g dLeastKeeps.kp dLeastKeeps.b .nil pass0 (pa_cons (pv 3) pa_nil)) (pa_cons (pe_call dCandidates.G (hr.mono (by decide)) (by rfl) dCandidates.g dCandidates.kp dCandidates.b .nil pass0 (pa_cons (pv 2) pa_nil)) pa_nil))) (pg_tup rfl (pgs_cons (pg_name (i := 4) scRight.nd rfl (.inr rfl)) (pgs_cons (pg_name (i := 5) scRight.nd rfl (.inr rfl)) pgs_nil))))
      (pss_cons (ps_if (PW.pt (pw_or (pt_not (pt_val (pe_callB call_isi (by rfl) T.m_isinstance (by decide +kernel) (pa_cons (pv 4) (pa_cons (pe_bltn (v := .ty "list") (by rfl) T.m_list (by decide +kernel) rfl) pa_nil))))) (pw_or (pt_cmpR (op_neD hr.units) (pv 4) (pe_callB cr_sortedPO (by rfl) T.m_sorted (by decide +kernel) (pa_cons (pv 4) pa_nil)) (nomark _)) (pw_or1 (pt_cmpR (op_neD hr.units) (pe_lc (tt := tTest (tOp (rNotInD K) (tVar 10) (tVar 5))) (own := [("_law_one", 10)]) (g := gName 10) rfl scRight.nd (pi_list (pv 4)) (blkOk_by (own := [("_law_one", 10)]) (N := NRight) (sc := defScope sRight) (by decide +kernel)) (fun _ _ _ _ _ => (pg_name (i := 10) scRight.nd rfl (.inl rfl))) (fun _ _ _ _ _ => (pts_one (pt_cmpR (op_notInD (hu65 hr)) (pv 10) (pv 5) (by rfl)))) (fun _ _ _ _ _ => (pv 10))) (pe_lst pa_nil) (nomark _)))))) (pss_one (ps_ret pe_bl)) pss_nil)
      (pss_cons (ps_if (PW.pt (pw_or (pt_cmpR (op_neD hr.units) (pe_lc (tt := tTest (tOp (rInD K) (tVar 10) (tSl (rSlL K) (tVar 4) tNoPart (tPart (tVar 11))))) (own := [("_law_place", 11), ("_law_one", 10)]) (g := gTup K 2 (gCons (gName 11) (gCons (gName 10) gNil))) rfl scRight.nd (pi_enum (by rfl) T.m_enumerate (pa_cons (pv 4) pa_nil)) (blkOk_by (own := [("_law_place", 11), ("_law_one", 10)]) (N := NRight) (sc := defScope sRight) (by decide +kernel)) (fun _ _ _ _ _ => (pg_tup rfl (pgs_cons (pg_name (i := 11) scRight.nd rfl (.inl rfl)) (pgs_cons (pg_name (i := 10) scRight.nd rfl (.inl rfl)) pgs_nil)))) (fun _ _ _ _ _ => (pts_one (pt_cmpR (op_inD (hu65 hr)) (pv 10) (pe_slice sl_list (pv 4) po_none (po_some (pv 11))) (by rfl)))) (fun _ _ _ _ _ => (pv 10))) (pe_lst pa_nil) (nomark _)) (pw_or1 (pt_not (pt_val (pe_call dIsEnough.G (hr.mono (by decide)) (by rfl) dIsEnough.g dIsEnough.kp dIsEnough.b .nil pass0 (pa_cons (pv 2) (pa_cons (pv 4) pa_nil)))))))) (pss_one (ps_ret pe_bl)) pss_nil)
      (pss_cons (ps_par (i := 6) (j := 7) (by rfl) scRight.nd rfl rfl (by decide) rfl rfl (pa_cons (pe_call dLost.G (hr.mono (by decide)) (by rfl) dLost.g dLost.kp dLost.b .nil pass0 (pa_cons (pv 2) (pa_cons (pv 4) pa_nil))) (pa_cons (pe_callTy call_list_of (by rfl) T.m_list (by decide +kernel) (pa_cons (pv 4) pa_nil)) pa_nil)) (by rfl))
      (pss_cons (ps_for PassesOwn.never rfl (pi_list (pe_call dSubsets.G (hr.mono (by decide)) (by rfl) dSubsets.g dSubsets.kp dSubsets.b .nil pass0 (pa_cons (pv 5) pa_nil))) (pg_name (i := 8) scRight.nd rfl (.inl rfl)) (pss_one (ps_if (PW.pt (pw_and (pt_cmpR op_le (pe_callB call_len_seq (by rfl) T.m_len (by decide +kernel) (pa_cons (pv 8) pa_nil)) (pe_callB call_len_seq (by rfl) T.m_len (by decide +kernel) (pa_cons (pv 7) pa_nil)) (nomark _)) (pw_and (pt_cmpR (op_neD hr.units) (pe_callB cr_sortedPO (by rfl) T.m_sorted (by decide +kernel) (pa_cons (pv 8) pa_nil)) (pv 7) (nomark _)) (pw_and1 (pt_val (pe_call dIsEnough.G (hr.mono (by decide)) (by rfl) dIsEnough.g dIsEnough.kp dIsEnough.b .nil pass0 (pa_cons (pv 2) (pa_cons (pv 8) pa_nil)))))))) (pss_cons (ps_set (i := 9) scRight.nd rfl (.inr rfl) (pe_call dLost.G (hr.mono (by decide)) (by rfl) dLost.g dLost.kp dLost.b .nil pass0 (pa_cons (pv 2) (pa_cons (pv 8) pa_nil))))
      (pss_one (ps_if (PW.pt (pw_or (pt_cmpR op_lt (pe_callB call_len_seq (by rfl) T.m_len (by decide +kernel) (pa_cons (pv 8) pa_nil)) (pe_callB call_len_seq (by rfl) T.m_len (by decide +kernel) (pa_cons (pv 7) pa_nil)) (nomark _)) (pw_or (pt_cmpR op_le (pe_callB call_len_dT (by rfl) T.m_len PySem.boot_len (pa_cons (pv 9) pa_nil)) (pe_callB call_len_dT (by rfl) T.m_len PySem.boot_len (pa_cons (pv 6) pa_nil)) (nomark _)) (pw_or1 (pt_cmpR (op_neD hr.units) (pe_lock (pe_lc (own := [("_law_one", 10)]) (g := gName 10) rfl scRight.nd (pi_keys (pv 6)) (blkOk_by (own := [("_law_one", 10)]) (N := NRight) (sc := defScope sRight) (by decide +kernel)) (fun _ _ _ _ _ => (pg_name (i := 10) scRight.nd rfl (.inl rfl))) (fun _ _ _ _ _ => (pts_one (pt_cmp (pc_dnotin hu (pv 10) (pv 9))))) (fun _ _ _ _ _ => (pv 10)))) (pe_lst pa_nil) (nomark _)))))) (pss_one (ps_ret pe_bl)) pss_nil))) pss_nil)))
      (pss_cons (ps_expr (pe_bm PySem.F.plainAttrs_list PySem.F.slot_list_append PySem.F.type_list_append mt_append (pv 4) (pa_cons pe_non pa_nil)))
      (pss_one (ps_ret (pe_cmpR (op_eqD hr.units) (pe_call dLeastKeeps.G (hr.mono (by decide)) (by rfl) dLeastKeeps.g dLeastKeeps.kp dLeastKeeps.b .nil pass0 (pa_cons (pv 3) pa_nil)) (pv 7) (nomark _))))))))))), ?_⟩
    have wf := LK.wf_sysOf (out := out) hg.valid
    refine q_par2R (tcons1 ?_)
    refine (en_book (ev_var rfl) (ev_var rfl) hR ho hg hfit) H (Ex.refl H) _ fun b H1 hb e1 hB1 => ?_
    refine tcons1 (make_run (ev_var rfl) (ev_var rfl) (hR.ex e1) (e1 _ _ ho) hg hfit fun x Hs es hS => ⟨_, _, rfl, ?_⟩)
    have exs := e1.trans es
    have hBs := hB1.ex es
    generalize hSy : LK.sysOf rows out = S at *
    refine q_asgEN (en_tup2 (P1 := fun p H' => ∃ ks, PtsAt H' p ks ∧ LK.Sys.Least S ks ∧ ks.Pairwise SLe) (P2 := fun p H' => ∃ cs, PtsAt H' p cs ∧ cs.Nodup ∧ ∀ q, q ∈ cs ↔ q ∈ S.points ∧ S.live q.1 q.2 = false)
      (by rw [← hSy]; exact en_least (ev_var rfl) hS) (by rw [← hSy]; exact en_cands (ev_var rfl) hBs) (fun x H1 H2 e ⟨ks, h1, h2⟩ => ⟨ks, h1.ex e, h2⟩) (fun x H1 H2 e ⟨ks, h1, h2⟩ => ⟨ks, h1.ex e, h2⟩)) ?_
    rintro t H2 ht e2 ⟨tl, ck, h2, ⟨ks, hks, least, srt⟩, ⟨cs, hcs, ndc, memc⟩, tl0, ck0⟩
    refine g_two h2 ?_
    have kin : ∀ p ∈ ks, p ∈ cs := fun p hp => by
      exact (memc p).mpr (least.cand p hp)
    have ksl : ks.length ≤ 12 := by
      have h1 := LK.Sys.sub_len least.nodup (K := S.points) fun p hp => ((memc p).mp (kin p hp)).1
      have h2 := points_few hg (out := out)
      rw [hSy] at h2
      omega
    have csl : cs.length ≤ 12 := by
      have h1 := LK.Sys.sub_len ndc (K := S.points) fun p hp => ((memc p).mp hp).1
      have h2 := points_few hg (out := out)
      rw [hSy] at h2
      omega
    obtain ⟨bs, hbs, hby⟩ := id hks
    have hbl := hby.1
    have none1 : ∀ (σ' : L2.St) (H3 : Hp) , True := fun _ _ => trivial
    -- the first three
    refine q_when (b := false) (et_is (et_or (a := false) (b := false) (et_not (a := true) (et_B (ev_isi (n := "list") (tt := .type "list") (ev_var rfl) ev_c (fun H1 e => ty_lst hbs e) (kit_ty (by decide +kernel))))) fun _ =>
      et_is (et_or (a := false) (b := false) (et_test (ev_neR (b := true) (R := fun ks' => ks'.Perm ks ∧ ks'.Pairwise SLe) (ev_var rfl) hks (en_sorted (ev_var rfl) hks) fun ks' h => decide_eq_true (LK.sorted_perm (R := SLe) (fun a b => SLe.anti) srt h.2 h.1.symm))) fun _ =>
        et_test (ev_neN (xs := []) (ds := []) ?_ (fun _ _ => .nil) (shp_ints []))) rfl) rfl) (fun z => nomatch z) fun _ H3 e3 => ?_
    · refine el_nil (bs.map V.ref).length (fun _ => .non) (el_lcL _ _ (ev_var rfl) (sq_of hbs) (by rw [List.length_map]; omega) (fun _ => rfl) (fun i y H3 e3 hy => ?_) (fun i y H3 e3 hy z => nomatch z))
      obtain ⟨c, p, rfl, _, hp, hpt⟩ := hby.item hy
      refine et_test (ev_is (ev_ptNotR (ev_var rfl) (e3 _ _ hpt) (ev_var rfl) (hcs.ex e3)) ?_)
      rw [decide_eq_true (kin p (List.mem_of_getElem? hp))]
      rfl
    have hks3 := hks.ex e3
    have hbs3 := e3 _ _ hbs
    have hby3 := hby.ex e3
    have hB3 := hBs.ex (e2.trans e3)
    have hsuf : sufB S ks = true := sufB_iff.mpr least.suff
    -- the next two
    refine q_when (b := false) (et_is (et_or (a := false) (b := false) (et_test (ev_neN (xs := []) (ds := []) ?_ (fun _ _ => .nil) (shp_ints []))) fun _ => et_not (a := true) (et_B (ev_is (enough_call (ev_var rfl) (ev_var rfl) hB3 hks3) (by rw [hSy, hsuf])))) rfl) (fun z => nomatch z) fun _ H4 e4 => ?_
    · refine el_nil (bs.map V.ref).length (fun _ => .non) (el_lcE _ _ (ev_var rfl) (sq_of hbs3) (by rw [List.length_map]; omega) (fun _ _ => rfl) (fun i y H4 e4 hy => ?_) (fun i y H4 e4 hy z => nomatch z))
      obtain ⟨c, p, rfl, _, hp, hpt⟩ := hby3.item hy
      have sl := el_sl (K := K) (te := tVar 4) (tl := tNoPart) (th := tPart (tVar 11)) (σ := ((wipe [some (.ref a), some (.ref o), some (.ref b), some (.ref x), some (.ref tl), some (.ref ck), none, none, none, none, none, none] [11, 10]).set 11 (some (.int (i : Nat)))).set 10 (some (.ref c))) (H := H4) (ev_var rfl) eo_none (eo_some (ev_var rfl)) (sq_of (e4 _ _ hbs3))
      rw [cut_take] at sl
      refine et_test (ev_is (ev_ptIn (ev_var rfl) (e4 _ _ hpt) sl ((hby3.take i).ex e4)) ?_)
      rw [decide_eq_false (not_before least.nodup hp)]
    have hB4 := hB3.ex e4
    have hks4 := hks3.ex e4
    have hbs4 := e4 _ _ hbs3
    have hby4 := hby3.ex e4
    refine q_par2R (tcons1 ?_)
    refine (lost_call (ev_var rfl) (ev_var rfl) hB4 hks4) H4 (Ex.refl H4) _ fun mi H5 hmi e5 ⟨DL, hmi5, hDL, lDL⟩ => ?_
    refine tcons1 ?_
    refine (el_list (p := tl) (xs := bs.map V.ref) (ev_var rfl) (sq_of hbs4)) H5 e5 _ fun kp H6 hkp e6 hkp6 => ⟨_, _, rfl, ?_⟩
    rw [hSy] at hDL
    have kpk : PtsAt H6 kp ks := ⟨bs, hkp6, hby4.ex (e5.trans e6)⟩
    have hmi6 := e6 _ _ hmi5
    have hB6 := hB4.ex (e5.trans e6)
    have ex26 : Ex Hs H6 := e2.trans (e3.trans (e4.trans (e5.trans e6)))
    have hcs6 : PtsAt H6 ck cs := hcs.ex (e3.trans (e4.trans (e5.trans e6)))
    have htl6 : H6 tl = some (.lst (bs.map V.ref)) := e6 _ _ (e5 _ _ hbs4)
    have kpt : kp ≠ tl := fun z => by
      rw [z] at hkp
      rw [e5 _ _ hbs4] at hkp
      cases hkp
    refine q_forI (fun xs f i σ' H' => ∃ (y8 y9 : Option V) (fs : List Addr), σ' = [some (.ref a), some (.ref o), some (.ref b), some (.ref x), some (.ref tl), some (.ref ck), some (.ref mi), some (.ref kp), y8, y9, none, none] ∧ Ex H6 H' ∧ H' f = some (.lst xs) ∧ xs = fs.map V.ref ∧ ∀ c ∈ fs, ∃ ks', PtsAt H' c ks' ∧ ks'.Sublist cs) ?_ (fun xs f i σ' H' ⟨_, _, _, _, _, h, _⟩ => h) ?_ ?_
    · intro R k
      refine (en_subs (ev_var rfl) hcs6 csl) H6 (Ex.refl H6) _ fun f H7 hf e7 ⟨fs, hfs, lfs, hfp⟩ => k f _ H7 hfs ⟨none, none, fs, rfl, e7, hfs, rfl, hfp⟩
    · rintro xs f i y σ' H' hy ⟨y8, y9, fs, rfl, ex, hf, rfl, hfp⟩
      rw [List.getElem?_map] at hy
      cases ec : fs[i]? with
      | none => rw [ec] at hy; cases hy
      | some c =>
        rw [ec] at hy
        cases hy
        obtain ⟨ks', hks', sub⟩ := hfp c (List.mem_of_getElem? ec)
        have nd' := sub.nodup ndc
        have stay : ∀ {z8 z9 : Option V} {H8 : Hp}, Ex H' H8 → ∃ y8 y9 fs', [some (V.ref a), some (.ref o), some (.ref b), some (.ref x), some (.ref tl), some (.ref ck), some (.ref mi), some (.ref kp), z8, z9, none, none] = [some (V.ref a), some (.ref o), some (.ref b), some (.ref x), some (.ref tl), some (.ref ck), some (.ref mi), some (.ref kp), y8, y9, none, none] ∧ Ex H6 H8 ∧ H8 f = some (.lst (fs.map V.ref)) ∧ fs.map V.ref = List.map V.ref fs' ∧ ∀ c ∈ fs', ∃ ks', PtsAt H8 c ks' ∧ ks'.Sublist cs :=
          fun e8 => ⟨_, _, fs, rfl, ex.trans e8, e8 _ _ hf, rfl, fun c hc => let ⟨k', h1, h2⟩ := hfp c hc; ⟨k', h1.ex e8, h2⟩⟩
        refine s_when (b := decide (((ks'.length : Nat) : Int) ≤ ((ks.length : Nat) : Int)) && (!permB ks' ks && sufB S ks')) (et_and (et_test (ev_is (ev_op (ev_lenPts (ev_var rfl) hks') (ev_lenPts (ev_var rfl) (kpk.ex ex)) rv_I0) rfl)) fun _ => et_and (et_test (ev_neL (b := permB ks' ks) (R := fun s => s.Perm ks' ∧ s.Pairwise SLe) (en_sorted (ev_var rfl) hks') (ev_var rfl) (kpk.ex ex) fun s hs => ?_)) fun _ => et_B (ev_is (enough_call (ev_var rfl) (ev_var rfl) (hB6.ex ex) hks') (by rw [hSy]))) (fun hc H8 e8 => ?_) (fun hc H8 e8 => stay e8)
        · refine Bool.eq_iff_iff.mpr ?_
          rw [decide_eq_true_iff, permB_iff]
          constructor
          · rintro rfl
            exact hs.1.symm
          · intro hp
            exact LK.sorted_perm (R := SLe) (fun a b => SLe.anti) hs.2 srt (hs.1.trans hp)
        · simp only [Bool.and_eq_true, Bool.not_eq_true', decide_eq_true_eq] at hc
          obtain ⟨c1, c2, c3⟩ := hc
          have np : ¬ ks'.Perm ks := fun z => by rw [permB_iff.mpr z] at c2; cases c2
          refine q_asgN (lost_call (ev_var rfl) (ev_var rfl) (hB6.ex (ex.trans e8)) (hks'.ex e8)) ?_
          rintro ot H9 hot e9 ⟨DK, hot9, hDK, lDK⟩
          rw [hSy] at hDK
          obtain ⟨le, lt, subD⟩ := least.other nd' (sufB_iff.mp c3) (by omega) np hDK hDL
          have hmi9 : H9 mi = some (.dT (kvL DL)) := e9 _ _ (e8 _ _ (ex _ _ hmi6))
          have om : ot ≠ mi := fun z => by
            rw [z, e8 _ _ (ex _ _ hmi6)] at hot
            cases hot
          refine s_when (b := false) (et_is (et_or (a := false) (b := false) (et_test (ev_is (ev_op (ev_lenPts (ev_var rfl) (hks'.ex (e8.trans e9))) (ev_lenPts (ev_var rfl) (kpk.ex (ex.trans (e8.trans e9)))) rv_I0) (by rw [decide_eq_false (by omega)]))) fun _ =>
            et_is (et_or (a := false) (b := false) (et_test (ev_is (ev_op (ev_lenD (ev_var rfl) hot9) (ev_lenD (ev_var rfl) hmi9) rv_I0) (by rw [kvL_len, kvL_len, decide_eq_false (by omega)]))) fun _ => et_test (ev_neN (xs := []) (ds := []) ?_ (fun _ _ => .nil) (shp_ints []))) rfl) rfl) (fun z => nomatch z) fun _ H10 e10 => stay (e8.trans (e9.trans e10))
          refine el_lcKT (fun _ => false) (fun _ _ => rfl) hmi9 (fun od => ev_var rfl) (by rw [kvL_len]; omega) (fun _ => rfl) fun i k w c od H11 e11 hk hc => ?_
          have hkd : ∃ p, p ∈ DL ∧ k = kPt p := by
            unfold kvL at hk
            rw [List.getElem?_map] at hk
            cases ep : DL[i]? with
            | none => rw [ep] at hk; cases hk
            | some p =>
              rw [ep] at hk
              cases hk
              exact ⟨p, List.mem_of_getElem? ep, rfl⟩
          obtain ⟨p, hp, rfl⟩ := hkd
          have ho11 : H11 ot = some (.dT (kvL DK)) := e11 _ _ ((upd_ne om).trans hot9)
          refine et_B (ev_is (ev_dniR (ev_var rfl) hc (ev_var rfl) (.inl ho11)) ?_)
          rw [kvL_is, decide_eq_true (subD p hp)]
          rfl
    · rintro xs f σ' H' ⟨y8, y9, fs, rfl, ex, hf, _, hfp⟩
      refine q_appV (v := .non) (ex _ _ htl6) (ev_var rfl) ev_c (by rw [List.length_map]; omega) fun H8 e8 => ?_
      have exS : Ex Hs (upd H8 tl (.lst (bs.map V.ref ++ [.non]))) := (ex26.trans (ex.trans e8)).mut tl0
      have kp9 : PtsAt (upd H8 tl (.lst (bs.map V.ref ++ [.non]))) kp ks := ⟨bs, (upd_ne kpt).trans ((ex.trans e8) _ _ hkp6), (hby4.ex (e5.trans (e6.trans (ex.trans e8)))).keep fun c zs hc => tup_keep ((ex.trans e8) _ _ htl6) hc⟩
      refine s_ret (ev_eqL (b := true) (R := fun s => LK.Sys.Least S s ∧ s.Pairwise SLe) (by rw [← hSy]; exact en_least (ev_var rfl) (hS.ex exS)) (ev_var rfl) kp9 fun s hs => decide_eq_true (LK.sorted_perm (R := SLe) (fun a b => SLe.anti) hs.2 srt (hs.1.same least))) fun H9 e9 => q H9 (exs.trans (exS.trans e9))
end
end LKW

/-! The law. -/
namespace LKW
open PySem PySem.Spec PyProof.Rows L2 Evl
section
variable {σ : L2.St} {H : Hp} {ta tb : TE}
theorem ev_min2 {i j : Int} (ha : Ev ta σ H (.int i)) (hb : Ev tb σ H (.int j)) : Ev (tCB (fun xs H Q => ∃ i j, xs = [.int i, .int j] ∧ Q (.int (if j < i then j else i)) H) (tCons ta (tCons tb tNil))) σ H (.int (if j < i then j else i)) := fun H1 e Q q =>
  (ea_cons ha (ea_cons hb ea_nil)) H1 e _ fun H2 e2 => ⟨i, j, rfl, q H2 e2⟩
theorem tcall1 {sp : Sp} {dvs : List V} {E : XK} {Q : VK} (h : ta σ H fun v H1 => sp ([v] ++ dvs) H1 Q E) : tCall sp dvs E (tCons ta tNil) σ H Q := h
/-- what was there before the pot was made -/
theorem Ex.pot {H0 H1 H2 : Hp} {p : Addr} (e : Ex H0 H1) (hp : H0 p = none) (px : Pex p H1 H2) : Ex H0 H2 := fun a o h => px a o (ne_of_none h hp) (e a o h)
end
def spLaw (K : PySem.W.Frag) : Sp := fun vs H Q _ => ∃ (a : Addr) (ns : List Int), vs = [.ref a] ∧ SqL K H a (ns.map V.int) ∧ ns.length ≤ 63 ∧ ∀ H', Q (.bl true) H'
section
variable {P : Program} {w : World} {K : PySem.W.Frag} {mg : Str → Option Value} {base : Heap} {CN CS : Addr}
theorem pot_run {σ : L2.St} {H : Hp} {ta tb : TE} {E E2 : XK} {a : Addr} {ns : List Int} {k : Nat} {Q : VK} (h1 : Ev ta σ H (.ref a)) (h2 : Ev tb σ H (.int (k : Nat))) (hS : SqL K H a (ns.map V.int)) (hk : k ≤ 3)
    (c : ∀ t H' a' o rows out, Ex H H' → H' t = some (.tup [.ref a', .ref o]) → RowsAt H' a' rows → H' o = some (.lst (out.map V.int)) → Good rows out → (∀ r ∈ rows, RowFits r) → Q (.ref t) H') :
    tCall spSmall [] E (tCons (tCall (spPot K) [] E2 (tCons ta (tCons tb tNil))) tNil) σ H Q :=
  tcall1 ((ea_cons h1 (ea_cons h2 ea_nil)) H (Ex.refl H) _ fun H1 e1 => ⟨a, ns, k, rfl, ex_l e1 hS, hk, fun p H2 hp e2 hpot => ⟨p, rfl, hpot, fun t H3 a' o rows out px ht hR ho hg hf => c t H3 a' o rows out (Ex.pot (e1.trans e2) (fresh_back e1 hp) px) ht hR ho hg hf⟩⟩)

theorem ok_Law {f : Addr} {fd : FuncData} (F : Fun K "law" "law" sLaw f fd) (T : Txt K mg CN CS) (dPot : Df P w K mg base "_law_pot" PPot 1 (spPot K)) (dRight : Df P w K mg base "_law_right" PRight 8 (spRight)) (dSmall : Df P w K mg base "_law_small" PSmall 5 (spSmall)) : FnOk P w K mg base CX0 9 f fd PLaw (spLaw K) := by
  refine F.ok scLaw (fun vs H Q E h => ?_) (fun cdv A outer s H vs Q E hr h => ?_)
  · obtain ⟨a, ns, rfl, hS, hl, q⟩ := h
    rfl
  · obtain ⟨a, ns, rfl, hS, hl, q⟩ := h
    refine ⟨_, (pss_cons (ps_for PassesOwn.never rfl (pi_range1 (by rfl) T.m_range (pa_cons (pe_callB (call_max2 rfl) (by rfl) T.m_max (by decide +kernel) (pa_cons pe_int (pa_cons (pe_callB (call_min2 rfl) (by rfl) T.m_min (by decide +kernel) (pa_cons pe_int (pa_cons (pe_callB call_len_seq (by rfl) T.m_len (by decide +kernel) (pa_cons (pv 0) pa_nil)) pa_nil))) pa_nil))) pa_nil)) (pg_name (i := 1) scLaw.nd rfl (.inl rfl)) (pss_cons (ps_asg (pe_call dSmall.G (hr.mono (by decide)) (by rfl) dSmall.g dSmall.kp dSmall.b .nil pass0 (pa_cons (pe_call dPot.G (hr.mono (by decide)) (by rfl) dPot.g dPot.kp dPot.b .nil pass0 (pa_cons (pv 0) (pa_cons (pv 1) pa_nil))) pa_nil)) (pg_tup rfl (pgs_cons (pg_name (i := 2) scLaw.nd rfl (.inl rfl)) (pgs_cons (pg_name (i := 3) scLaw.nd rfl (.inl rfl)) pgs_nil))))
      (pss_one (ps_if (pt_not (pt_val (pe_call dRight.G (hr.mono (by decide)) (by rfl) dRight.g dRight.kp dRight.b .nil pass0 (pa_cons (pv 2) (pa_cons (pv 3) pa_nil))))) (pss_one (ps_ret pe_bl)) pss_nil))))
      (pss_one (ps_ret pe_bl))), ?_⟩
    have hn : ∀ x : Int, 0 ≤ x → (0 : Int) ≤ (if (if x < 3 then x else 3) > 1 then (if x < 3 then x else 3) else 1) ∧ (if (if x < 3 then x else 3) > 1 then (if x < 3 then x else 3) else 1) ≤ 3 := fun x hx => by
      split <;> split <;> omega
    have h3 := hn ((ns.map V.int).length : Int) (by omega)
    refine q_forR1 (n := if (if ((ns.map V.int).length : Int) < 3 then ((ns.map V.int).length : Int) else 3) > 1 then (if ((ns.map V.int).length : Int) < 3 then ((ns.map V.int).length : Int) else 3) else 1) (ea_cons (ev_max2 ev_c (ev_min2 ev_c (ev_len (ev_var rfl) hS))) ea_nil) ⟨h3.1, by omega⟩
      (fun i σ' H' => ∃ y1 y2 y3, σ' = [some (.ref a), y1, y2, y3] ∧ Ex H H') (fun H1 e1 => ⟨none, none, none, rfl, e1⟩) ?_ ?_
    · rintro i σ' H' hi ⟨y1, y2, y3, rfl, ex⟩
      refine q_asgRaw (pot_run (ev_var rfl) (ev_var rfl) (ex_l ex hS) (by omega) fun t H1 a' o rows out e1 ht hR ho hg hf => g_two ht ?_)
      refine s_when (b := false) (et_not (a := true) (et_B (ev_call (ea_cons (ev_var rfl) (ea_cons (ev_var rfl) ea_nil)) fun H2 e2 Q' q' E' => ⟨a', o, rows, out, rfl, hR.ex e2, e2 _ _ ho, hg, hf, q'⟩))) (fun z => nomatch z) fun _ H2 e2 => ⟨_, _, _, rfl, ex.trans (e1.trans e2)⟩
    · rintro σ' H' ⟨y1, y2, y3, rfl, ex⟩
      exact s_ret ev_c fun H1 _ => q H1
end
end LKW

namespace LKW
open PySem PySem.Spec PyProof.Rows L2
theorem all_mk {l : PySem.W.OpenLaw} {w : World} {K : PySem.W.Frag} {h : Heap} {mg : Str → Option Value} {fa CN CS Td Ed : Addr} (X : K.In h) (G : h.Ns mainGlobals mg) (hfa : mg "law" = some (.ref fa))
    {fIsInteger : Addr} {odIsInteger anIsInteger : Option Addr} {slIsInteger : Array (Option Value)} {ocIsInteger kVIsInteger dcIsInteger pmIsInteger cdIsInteger ctIsInteger : Value}
    {fIsNew : Addr} {odIsNew anIsNew : Option Addr} {slIsNew : Array (Option Value)} {ocIsNew kVIsNew dcIsNew pmIsNew cdIsNew ctIsNew : Value}
    {fAreSet : Addr} {odAreSet anAreSet : Option Addr} {slAreSet : Array (Option Value)} {ocAreSet kVAreSet dcAreSet pmAreSet cdAreSet ctAreSet : Value}
    {fIsRow : Addr} {odIsRow anIsRow : Option Addr} {slIsRow : Array (Option Value)} {ocIsRow kVIsRow dcIsRow pmIsRow cdIsRow ctIsRow : Value}
    {fPlacesIn : Addr} {odPlacesIn anPlacesIn : Option Addr} {slPlacesIn : Array (Option Value)} {ocPlacesIn kVPlacesIn dcPlacesIn pmPlacesIn cdPlacesIn ctPlacesIn : Value}
    {fCheckOut : Addr} {odCheckOut anCheckOut : Option Addr} {slCheckOut : Array (Option Value)} {ocCheckOut kVCheckOut dcCheckOut pmCheckOut cdCheckOut ctCheckOut : Value}
    {fNeededBy : Addr} {odNeededBy anNeededBy : Option Addr} {slNeededBy : Array (Option Value)} {ocNeededBy kVNeededBy dcNeededBy pmNeededBy cdNeededBy ctNeededBy : Value}
    {fLastNeeds : Addr} {odLastNeeds anLastNeeds : Option Addr} {slLastNeeds : Array (Option Value)} {ocLastNeeds kVLastNeeds dcLastNeeds pmLastNeeds cdLastNeeds ctLastNeeds : Value}
    {fStretchIsValue : Addr} {odStretchIsValue anStretchIsValue : Option Addr} {slStretchIsValue : Array (Option Value)} {ocStretchIsValue kVStretchIsValue dcStretchIsValue pmStretchIsValue cdStretchIsValue ctStretchIsValue : Value}
    {fStretchIsStop : Addr} {odStretchIsStop anStretchIsStop : Option Addr} {slStretchIsStop : Array (Option Value)} {ocStretchIsStop kVStretchIsStop dcStretchIsStop pmStretchIsStop cdStretchIsStop ctStretchIsStop : Value}
    {fStretchCheckValue : Addr} {odStretchCheckValue anStretchCheckValue : Option Addr} {slStretchCheckValue : Array (Option Value)} {ocStretchCheckValue kVStretchCheckValue dcStretchCheckValue pmStretchCheckValue cdStretchCheckValue ctStretchCheckValue : Value}
    {fStretchCheckStop : Addr} {odStretchCheckStop anStretchCheckStop : Option Addr} {slStretchCheckStop : Array (Option Value)} {ocStretchCheckStop kVStretchCheckStop dcStretchCheckStop pmStretchCheckStop cdStretchCheckStop ctStretchCheckStop : Value}
    {fStretchOperands : Addr} {odStretchOperands anStretchOperands : Option Addr} {slStretchOperands : Array (Option Value)} {ocStretchOperands kVStretchOperands dcStretchOperands pmStretchOperands cdStretchOperands ctStretchOperands : Value}
    {fStretchAsked : Addr} {odStretchAsked anStretchAsked : Option Addr} {slStretchAsked : Array (Option Value)} {ocStretchAsked kVStretchAsked dcStretchAsked pmStretchAsked cdStretchAsked ctStretchAsked : Value}
    {fStretchIsPresent : Addr} {odStretchIsPresent anStretchIsPresent : Option Addr} {slStretchIsPresent : Array (Option Value)} {ocStretchIsPresent kVStretchIsPresent dcStretchIsPresent pmStretchIsPresent cdStretchIsPresent ctStretchIsPresent : Value}
    {fStretchIsLive : Addr} {odStretchIsLive anStretchIsLive : Option Addr} {slStretchIsLive : Array (Option Value)} {ocStretchIsLive kVStretchIsLive dcStretchIsLive pmStretchIsLive cdStretchIsLive ctStretchIsLive : Value}
    {fStretchStops : Addr} {odStretchStops anStretchStops : Option Addr} {slStretchStops : Array (Option Value)} {ocStretchStops kVStretchStops dcStretchStops pmStretchStops cdStretchStops ctStretchStops : Value}
    {fStretchPresent : Addr} {odStretchPresent anStretchPresent : Option Addr} {slStretchPresent : Array (Option Value)} {ocStretchPresent kVStretchPresent dcStretchPresent pmStretchPresent cdStretchPresent ctStretchPresent : Value}
    {fStretchInit : Addr} {odStretchInit anStretchInit : Option Addr} {slStretchInit : Array (Option Value)} {ocStretchInit kVStretchInit dcStretchInit pmStretchInit cdStretchInit ctStretchInit : Value}
    {fPointsOf : Addr} {odPointsOf anPointsOf : Option Addr} {slPointsOf : Array (Option Value)} {ocPointsOf kVPointsOf dcPointsOf pmPointsOf cdPointsOf ctPointsOf : Value}
    {fNetworkInit : Addr} {odNetworkInit anNetworkInit : Option Addr} {slNetworkInit : Array (Option Value)} {ocNetworkInit kVNetworkInit dcNetworkInit pmNetworkInit cdNetworkInit ctNetworkInit : Value}
    {fNetworkConnect : Addr} {odNetworkConnect anNetworkConnect : Option Addr} {slNetworkConnect : Array (Option Value)} {ocNetworkConnect kVNetworkConnect dcNetworkConnect pmNetworkConnect cdNetworkConnect ctNetworkConnect : Value}
    {fNetworkNextNode : Addr} {odNetworkNextNode anNetworkNextNode : Option Addr} {slNetworkNextNode : Array (Option Value)} {ocNetworkNextNode kVNetworkNextNode dcNetworkNextNode pmNetworkNextNode cdNetworkNextNode ctNetworkNextNode : Value}
    {fNetworkReached : Addr} {odNetworkReached anNetworkReached : Option Addr} {slNetworkReached : Array (Option Value)} {ocNetworkReached kVNetworkReached dcNetworkReached pmNetworkReached cdNetworkReached ctNetworkReached : Value}
    {fNetworkPush : Addr} {odNetworkPush anNetworkPush : Option Addr} {slNetworkPush : Array (Option Value)} {ocNetworkPush kVNetworkPush dcNetworkPush pmNetworkPush cdNetworkPush ctNetworkPush : Value}
    {fNetworkFill : Addr} {odNetworkFill anNetworkFill : Option Addr} {slNetworkFill : Array (Option Value)} {ocNetworkFill kVNetworkFill dcNetworkFill pmNetworkFill cdNetworkFill ctNetworkFill : Value}
    {fSpreadNode : Addr} {odSpreadNode anSpreadNode : Option Addr} {slSpreadNode : Array (Option Value)} {ocSpreadNode kVSpreadNode dcSpreadNode pmSpreadNode cdSpreadNode ctSpreadNode : Value}
    {fLostNode : Addr} {odLostNode anLostNode : Option Addr} {slLostNode : Array (Option Value)} {ocLostNode kVLostNode dcLostNode pmLostNode cdLostNode ctLostNode : Value}
    {fConnectPoint : Addr} {odConnectPoint anConnectPoint : Option Addr} {slConnectPoint : Array (Option Value)} {ocConnectPoint kVConnectPoint dcConnectPoint pmConnectPoint cdConnectPoint ctConnectPoint : Value}
    {fNetworkOf : Addr} {odNetworkOf anNetworkOf : Option Addr} {slNetworkOf : Array (Option Value)} {ocNetworkOf kVNetworkOf dcNetworkOf pmNetworkOf cdNetworkOf ctNetworkOf : Value}
    {fLeastKeeps : Addr} {odLeastKeeps anLeastKeeps : Option Addr} {slLeastKeeps : Array (Option Value)} {ocLeastKeeps kVLeastKeeps dcLeastKeeps pmLeastKeeps cdLeastKeeps ctLeastKeeps : Value}
    {fPot : Addr} {odPot anPot : Option Addr} {slPot : Array (Option Value)} {ocPot kVPot dcPot pmPot cdPot ctPot : Value}
    {fDraw : Addr} {odDraw anDraw : Option Addr} {slDraw : Array (Option Value)} {ocDraw kVDraw dcDraw pmDraw cdDraw ctDraw : Value}
    {fShuffled : Addr} {odShuffled anShuffled : Option Addr} {slShuffled : Array (Option Value)} {ocShuffled kVShuffled dcShuffled pmShuffled cdShuffled ctShuffled : Value}
    {fNames : Addr} {odNames anNames : Option Addr} {slNames : Array (Option Value)} {ocNames kVNames dcNames pmNames cdNames ctNames : Value}
    {fSome : Addr} {odSome anSome : Option Addr} {slSome : Array (Option Value)} {ocSome kVSome dcSome pmSome cdSome ctSome : Value}
    {fRows : Addr} {odRows anRows : Option Addr} {slRows : Array (Option Value)} {ocRows kVRows dcRows pmRows cdRows ctRows : Value}
    {fSmall : Addr} {odSmall anSmall : Option Addr} {slSmall : Array (Option Value)} {ocSmall kVSmall dcSmall pmSmall cdSmall ctSmall : Value}
    {fBook : Addr} {odBook anBook : Option Addr} {slBook : Array (Option Value)} {ocBook kVBook dcBook pmBook cdBook ctBook : Value}
    {fIsThere : Addr} {odIsThere anIsThere : Option Addr} {slIsThere : Array (Option Value)} {ocIsThere kVIsThere dcIsThere pmIsThere cdIsThere ctIsThere : Value}
    {fIsLive : Addr} {odIsLive anIsLive : Option Addr} {slIsLive : Array (Option Value)} {ocIsLive kVIsLive dcIsLive pmIsLive cdIsLive ctIsLive : Value}
    {fLost : Addr} {odLost anLost : Option Addr} {slLost : Array (Option Value)} {ocLost kVLost dcLost pmLost cdLost ctLost : Value}
    {fIsEnough : Addr} {odIsEnough anIsEnough : Option Addr} {slIsEnough : Array (Option Value)} {ocIsEnough kVIsEnough dcIsEnough pmIsEnough cdIsEnough ctIsEnough : Value}
    {fCandidates : Addr} {odCandidates anCandidates : Option Addr} {slCandidates : Array (Option Value)} {ocCandidates kVCandidates dcCandidates pmCandidates cdCandidates ctCandidates : Value}
    {fSubsets : Addr} {odSubsets anSubsets : Option Addr} {slSubsets : Array (Option Value)} {ocSubsets kVSubsets dcSubsets pmSubsets cdSubsets ctSubsets : Value}
    {fRight : Addr} {odRight anRight : Option Addr} {slRight : Array (Option Value)} {ocRight kVRight dcRight pmRight cdRight ctRight : Value}
    {fLaw : Addr} {odLaw anLaw : Option Addr} {slLaw : Array (Option Value)} {ocLaw kVLaw dcLaw pmLaw cdLaw ctLaw : Value}
    {cTd : Value} {odTd : Option Addr} {nTd : Nat} {slTd : Array (Option Value)} {tSOURCE tSINK tLEAF tSET tUSE tSTOP : Tok}
    (atCN : PySem.W.nsIn K mainGlobals "Network" = some (some (.ref CN)))
    (atCS : PySem.W.nsIn K mainGlobals "Stretch" = some (some (.ref CS)))
    (aIsInteger : PySem.W.nsIn K mainGlobals "is_integer" = some (some (.ref fIsInteger)))
    (lIsInteger : K.lookup fIsInteger = some ⟨ocIsInteger, odIsInteger, .func (PySem.W.fnOf "is_integer" "is_integer" (defArgs sIsInteger) (defBody sIsInteger) (defScope sIsInteger) .none kVIsInteger dcIsInteger pmIsInteger anIsInteger cdIsInteger ctIsInteger), slIsInteger⟩)
    (cIsInteger : PySem.W.codeIn K cdIsInteger "is_integer" = true)
    (kIsInteger : PySem.W.keepIn K (.ref fIsInteger) = true)
    (aIsNew : PySem.W.nsIn K mainGlobals "is_new" = some (some (.ref fIsNew)))
    (lIsNew : K.lookup fIsNew = some ⟨ocIsNew, odIsNew, .func (PySem.W.fnOf "is_new" "is_new" (defArgs sIsNew) (defBody sIsNew) (defScope sIsNew) .none kVIsNew dcIsNew pmIsNew anIsNew cdIsNew ctIsNew), slIsNew⟩)
    (cIsNew : PySem.W.codeIn K cdIsNew "is_new" = true)
    (kIsNew : PySem.W.keepIn K (.ref fIsNew) = true)
    (aAreSet : PySem.W.nsIn K mainGlobals "are_set" = some (some (.ref fAreSet)))
    (lAreSet : K.lookup fAreSet = some ⟨ocAreSet, odAreSet, .func (PySem.W.fnOf "are_set" "are_set" (defArgs sAreSet) (defBody sAreSet) (defScope sAreSet) .none kVAreSet dcAreSet pmAreSet anAreSet cdAreSet ctAreSet), slAreSet⟩)
    (cAreSet : PySem.W.codeIn K cdAreSet "are_set" = true)
    (kAreSet : PySem.W.keepIn K (.ref fAreSet) = true)
    (aIsRow : PySem.W.nsIn K mainGlobals "is_row" = some (some (.ref fIsRow)))
    (lIsRow : K.lookup fIsRow = some ⟨ocIsRow, odIsRow, .func (PySem.W.fnOf "is_row" "is_row" (defArgs sIsRow) (defBody sIsRow) (defScope sIsRow) .none kVIsRow dcIsRow pmIsRow anIsRow cdIsRow ctIsRow), slIsRow⟩)
    (cIsRow : PySem.W.codeIn K cdIsRow "is_row" = true)
    (kIsRow : PySem.W.keepIn K (.ref fIsRow) = true)
    (aPlacesIn : PySem.W.nsIn K mainGlobals "places_in" = some (some (.ref fPlacesIn)))
    (lPlacesIn : K.lookup fPlacesIn = some ⟨ocPlacesIn, odPlacesIn, .func (PySem.W.fnOf "places_in" "places_in" (defArgs sPlacesIn) (defBody sPlacesIn) (defScope sPlacesIn) .none kVPlacesIn dcPlacesIn pmPlacesIn anPlacesIn cdPlacesIn ctPlacesIn), slPlacesIn⟩)
    (cPlacesIn : PySem.W.codeIn K cdPlacesIn "places_in" = true)
    (kPlacesIn : PySem.W.keepIn K (.ref fPlacesIn) = true)
    (aCheckOut : PySem.W.nsIn K mainGlobals "check_out" = some (some (.ref fCheckOut)))
    (lCheckOut : K.lookup fCheckOut = some ⟨ocCheckOut, odCheckOut, .func (PySem.W.fnOf "check_out" "check_out" (defArgs sCheckOut) (defBody sCheckOut) (defScope sCheckOut) .none kVCheckOut dcCheckOut pmCheckOut anCheckOut cdCheckOut ctCheckOut), slCheckOut⟩)
    (cCheckOut : PySem.W.codeIn K cdCheckOut "check_out" = true)
    (kCheckOut : PySem.W.keepIn K (.ref fCheckOut) = true)
    (aNeededBy : PySem.W.nsIn K mainGlobals "needed_by" = some (some (.ref fNeededBy)))
    (lNeededBy : K.lookup fNeededBy = some ⟨ocNeededBy, odNeededBy, .func (PySem.W.fnOf "needed_by" "needed_by" (defArgs sNeededBy) (defBody sNeededBy) (defScope sNeededBy) .none kVNeededBy dcNeededBy pmNeededBy anNeededBy cdNeededBy ctNeededBy), slNeededBy⟩)
    (cNeededBy : PySem.W.codeIn K cdNeededBy "needed_by" = true)
    (kNeededBy : PySem.W.keepIn K (.ref fNeededBy) = true)
    (aLastNeeds : PySem.W.nsIn K mainGlobals "last_needs" = some (some (.ref fLastNeeds)))
    (lLastNeeds : K.lookup fLastNeeds = some ⟨ocLastNeeds, odLastNeeds, .func (PySem.W.fnOf "last_needs" "last_needs" (defArgs sLastNeeds) (defBody sLastNeeds) (defScope sLastNeeds) .none kVLastNeeds dcLastNeeds pmLastNeeds anLastNeeds cdLastNeeds ctLastNeeds), slLastNeeds⟩)
    (cLastNeeds : PySem.W.codeIn K cdLastNeeds "last_needs" = true)
    (kLastNeeds : PySem.W.keepIn K (.ref fLastNeeds) = true)
    (aStretchIsValue : PySem.W.findIn K (.ref CS) "is_value" = some (some (.ref fStretchIsValue)))
    (iStretchIsValue : PySem.W.isFn K (.ref fStretchIsValue) = true)
    (lStretchIsValue : K.lookup fStretchIsValue = some ⟨ocStretchIsValue, odStretchIsValue, .func (PySem.W.fnOf "is_value" "Stretch.is_value" (defArgs sStretchIsValue) (defBody sStretchIsValue) (defScope sStretchIsValue) .none kVStretchIsValue dcStretchIsValue pmStretchIsValue anStretchIsValue cdStretchIsValue ctStretchIsValue), slStretchIsValue⟩)
    (cStretchIsValue : PySem.W.codeIn K cdStretchIsValue "Stretch.is_value" = true)
    (kStretchIsValue : PySem.W.keepIn K (.ref fStretchIsValue) = true)
    (aStretchIsStop : PySem.W.findIn K (.ref CS) "is_stop" = some (some (.ref fStretchIsStop)))
    (iStretchIsStop : PySem.W.isFn K (.ref fStretchIsStop) = true)
    (lStretchIsStop : K.lookup fStretchIsStop = some ⟨ocStretchIsStop, odStretchIsStop, .func (PySem.W.fnOf "is_stop" "Stretch.is_stop" (defArgs sStretchIsStop) (defBody sStretchIsStop) (defScope sStretchIsStop) .none kVStretchIsStop dcStretchIsStop pmStretchIsStop anStretchIsStop cdStretchIsStop ctStretchIsStop), slStretchIsStop⟩)
    (cStretchIsStop : PySem.W.codeIn K cdStretchIsStop "Stretch.is_stop" = true)
    (kStretchIsStop : PySem.W.keepIn K (.ref fStretchIsStop) = true)
    (aStretchCheckValue : PySem.W.findIn K (.ref CS) "check_value" = some (some (.ref fStretchCheckValue)))
    (iStretchCheckValue : PySem.W.isFn K (.ref fStretchCheckValue) = true)
    (lStretchCheckValue : K.lookup fStretchCheckValue = some ⟨ocStretchCheckValue, odStretchCheckValue, .func (PySem.W.fnOf "check_value" "Stretch.check_value" (defArgs sStretchCheckValue) (defBody sStretchCheckValue) (defScope sStretchCheckValue) .none kVStretchCheckValue dcStretchCheckValue pmStretchCheckValue anStretchCheckValue cdStretchCheckValue ctStretchCheckValue), slStretchCheckValue⟩)
    (cStretchCheckValue : PySem.W.codeIn K cdStretchCheckValue "Stretch.check_value" = true)
    (kStretchCheckValue : PySem.W.keepIn K (.ref fStretchCheckValue) = true)
    (aStretchCheckStop : PySem.W.findIn K (.ref CS) "check_stop" = some (some (.ref fStretchCheckStop)))
    (iStretchCheckStop : PySem.W.isFn K (.ref fStretchCheckStop) = true)
    (lStretchCheckStop : K.lookup fStretchCheckStop = some ⟨ocStretchCheckStop, odStretchCheckStop, .func (PySem.W.fnOf "check_stop" "Stretch.check_stop" (defArgs sStretchCheckStop) (defBody sStretchCheckStop) (defScope sStretchCheckStop) .none kVStretchCheckStop dcStretchCheckStop pmStretchCheckStop anStretchCheckStop cdStretchCheckStop ctStretchCheckStop), slStretchCheckStop⟩)
    (cStretchCheckStop : PySem.W.codeIn K cdStretchCheckStop "Stretch.check_stop" = true)
    (kStretchCheckStop : PySem.W.keepIn K (.ref fStretchCheckStop) = true)
    (aStretchOperands : PySem.W.findIn K (.ref CS) "operands" = some (some (.ref fStretchOperands)))
    (iStretchOperands : PySem.W.isFn K (.ref fStretchOperands) = true)
    (lStretchOperands : K.lookup fStretchOperands = some ⟨ocStretchOperands, odStretchOperands, .func (PySem.W.fnOf "operands" "Stretch.operands" (defArgs sStretchOperands) (defBody sStretchOperands) (defScope sStretchOperands) .none kVStretchOperands dcStretchOperands pmStretchOperands anStretchOperands cdStretchOperands ctStretchOperands), slStretchOperands⟩)
    (cStretchOperands : PySem.W.codeIn K cdStretchOperands "Stretch.operands" = true)
    (kStretchOperands : PySem.W.keepIn K (.ref fStretchOperands) = true)
    (aStretchAsked : PySem.W.findIn K (.ref CS) "asked" = some (some (.ref fStretchAsked)))
    (iStretchAsked : PySem.W.isFn K (.ref fStretchAsked) = true)
    (lStretchAsked : K.lookup fStretchAsked = some ⟨ocStretchAsked, odStretchAsked, .func (PySem.W.fnOf "asked" "Stretch.asked" (defArgs sStretchAsked) (defBody sStretchAsked) (defScope sStretchAsked) .none kVStretchAsked dcStretchAsked pmStretchAsked anStretchAsked cdStretchAsked ctStretchAsked), slStretchAsked⟩)
    (cStretchAsked : PySem.W.codeIn K cdStretchAsked "Stretch.asked" = true)
    (kStretchAsked : PySem.W.keepIn K (.ref fStretchAsked) = true)
    (aStretchIsPresent : PySem.W.findIn K (.ref CS) "is_present" = some (some (.ref fStretchIsPresent)))
    (iStretchIsPresent : PySem.W.isFn K (.ref fStretchIsPresent) = true)
    (lStretchIsPresent : K.lookup fStretchIsPresent = some ⟨ocStretchIsPresent, odStretchIsPresent, .func (PySem.W.fnOf "is_present" "Stretch.is_present" (defArgs sStretchIsPresent) (defBody sStretchIsPresent) (defScope sStretchIsPresent) .none kVStretchIsPresent dcStretchIsPresent pmStretchIsPresent anStretchIsPresent cdStretchIsPresent ctStretchIsPresent), slStretchIsPresent⟩)
    (cStretchIsPresent : PySem.W.codeIn K cdStretchIsPresent "Stretch.is_present" = true)
    (kStretchIsPresent : PySem.W.keepIn K (.ref fStretchIsPresent) = true)
    (aStretchIsLive : PySem.W.findIn K (.ref CS) "is_live" = some (some (.ref fStretchIsLive)))
    (iStretchIsLive : PySem.W.isFn K (.ref fStretchIsLive) = true)
    (lStretchIsLive : K.lookup fStretchIsLive = some ⟨ocStretchIsLive, odStretchIsLive, .func (PySem.W.fnOf "is_live" "Stretch.is_live" (defArgs sStretchIsLive) (defBody sStretchIsLive) (defScope sStretchIsLive) .none kVStretchIsLive dcStretchIsLive pmStretchIsLive anStretchIsLive cdStretchIsLive ctStretchIsLive), slStretchIsLive⟩)
    (cStretchIsLive : PySem.W.codeIn K cdStretchIsLive "Stretch.is_live" = true)
    (kStretchIsLive : PySem.W.keepIn K (.ref fStretchIsLive) = true)
    (aStretchStops : PySem.W.findIn K (.ref CS) "stops" = some (some (.ref fStretchStops)))
    (iStretchStops : PySem.W.isFn K (.ref fStretchStops) = true)
    (lStretchStops : K.lookup fStretchStops = some ⟨ocStretchStops, odStretchStops, .func (PySem.W.fnOf "stops" "Stretch.stops" (defArgs sStretchStops) (defBody sStretchStops) (defScope sStretchStops) .none kVStretchStops dcStretchStops pmStretchStops anStretchStops cdStretchStops ctStretchStops), slStretchStops⟩)
    (cStretchStops : PySem.W.codeIn K cdStretchStops "Stretch.stops" = true)
    (kStretchStops : PySem.W.keepIn K (.ref fStretchStops) = true)
    (aStretchPresent : PySem.W.findIn K (.ref CS) "present" = some (some (.ref fStretchPresent)))
    (iStretchPresent : PySem.W.isFn K (.ref fStretchPresent) = true)
    (lStretchPresent : K.lookup fStretchPresent = some ⟨ocStretchPresent, odStretchPresent, .func (PySem.W.fnOf "present" "Stretch.present" (defArgs sStretchPresent) (defBody sStretchPresent) (defScope sStretchPresent) .none kVStretchPresent dcStretchPresent pmStretchPresent anStretchPresent cdStretchPresent ctStretchPresent), slStretchPresent⟩)
    (cStretchPresent : PySem.W.codeIn K cdStretchPresent "Stretch.present" = true)
    (kStretchPresent : PySem.W.keepIn K (.ref fStretchPresent) = true)
    (aStretchInit : PySem.W.findIn K (.ref CS) "__init__" = some (some (.ref fStretchInit)))
    (iStretchInit : PySem.W.isFn K (.ref fStretchInit) = true)
    (lStretchInit : K.lookup fStretchInit = some ⟨ocStretchInit, odStretchInit, .func (PySem.W.fnOf "__init__" "Stretch.__init__" (defArgs sStretchInit) (defBody sStretchInit) (defScope sStretchInit) (.ref Td) kVStretchInit dcStretchInit pmStretchInit anStretchInit cdStretchInit ctStretchInit), slStretchInit⟩)
    (cStretchInit : PySem.W.codeIn K cdStretchInit "Stretch.__init__" = true)
    (kStretchInit : PySem.W.keepIn K (.ref fStretchInit) = true)
    (aPointsOf : PySem.W.nsIn K mainGlobals "points_of" = some (some (.ref fPointsOf)))
    (lPointsOf : K.lookup fPointsOf = some ⟨ocPointsOf, odPointsOf, .func (PySem.W.fnOf "points_of" "points_of" (defArgs sPointsOf) (defBody sPointsOf) (defScope sPointsOf) .none kVPointsOf dcPointsOf pmPointsOf anPointsOf cdPointsOf ctPointsOf), slPointsOf⟩)
    (cPointsOf : PySem.W.codeIn K cdPointsOf "points_of" = true)
    (kPointsOf : PySem.W.keepIn K (.ref fPointsOf) = true)
    (aNetworkInit : PySem.W.findIn K (.ref CN) "__init__" = some (some (.ref fNetworkInit)))
    (iNetworkInit : PySem.W.isFn K (.ref fNetworkInit) = true)
    (lNetworkInit : K.lookup fNetworkInit = some ⟨ocNetworkInit, odNetworkInit, .func (PySem.W.fnOf "__init__" "Network.__init__" (defArgs sNetworkInit) (defBody sNetworkInit) (defScope sNetworkInit) .none kVNetworkInit dcNetworkInit pmNetworkInit anNetworkInit cdNetworkInit ctNetworkInit), slNetworkInit⟩)
    (cNetworkInit : PySem.W.codeIn K cdNetworkInit "Network.__init__" = true)
    (kNetworkInit : PySem.W.keepIn K (.ref fNetworkInit) = true)
    (aNetworkConnect : PySem.W.findIn K (.ref CN) "connect" = some (some (.ref fNetworkConnect)))
    (iNetworkConnect : PySem.W.isFn K (.ref fNetworkConnect) = true)
    (lNetworkConnect : K.lookup fNetworkConnect = some ⟨ocNetworkConnect, odNetworkConnect, .func (PySem.W.fnOf "connect" "Network.connect" (defArgs sNetworkConnect) (defBody sNetworkConnect) (defScope sNetworkConnect) .none kVNetworkConnect dcNetworkConnect pmNetworkConnect anNetworkConnect cdNetworkConnect ctNetworkConnect), slNetworkConnect⟩)
    (cNetworkConnect : PySem.W.codeIn K cdNetworkConnect "Network.connect" = true)
    (kNetworkConnect : PySem.W.keepIn K (.ref fNetworkConnect) = true)
    (aNetworkNextNode : PySem.W.findIn K (.ref CN) "next_node" = some (some (.ref fNetworkNextNode)))
    (iNetworkNextNode : PySem.W.isFn K (.ref fNetworkNextNode) = true)
    (lNetworkNextNode : K.lookup fNetworkNextNode = some ⟨ocNetworkNextNode, odNetworkNextNode, .func (PySem.W.fnOf "next_node" "Network.next_node" (defArgs sNetworkNextNode) (defBody sNetworkNextNode) (defScope sNetworkNextNode) .none kVNetworkNextNode dcNetworkNextNode pmNetworkNextNode anNetworkNextNode cdNetworkNextNode ctNetworkNextNode), slNetworkNextNode⟩)
    (cNetworkNextNode : PySem.W.codeIn K cdNetworkNextNode "Network.next_node" = true)
    (kNetworkNextNode : PySem.W.keepIn K (.ref fNetworkNextNode) = true)
    (aNetworkReached : PySem.W.findIn K (.ref CN) "reached" = some (some (.ref fNetworkReached)))
    (iNetworkReached : PySem.W.isFn K (.ref fNetworkReached) = true)
    (lNetworkReached : K.lookup fNetworkReached = some ⟨ocNetworkReached, odNetworkReached, .func (PySem.W.fnOf "reached" "Network.reached" (defArgs sNetworkReached) (defBody sNetworkReached) (defScope sNetworkReached) .none kVNetworkReached dcNetworkReached pmNetworkReached anNetworkReached cdNetworkReached ctNetworkReached), slNetworkReached⟩)
    (cNetworkReached : PySem.W.codeIn K cdNetworkReached "Network.reached" = true)
    (kNetworkReached : PySem.W.keepIn K (.ref fNetworkReached) = true)
    (aNetworkPush : PySem.W.findIn K (.ref CN) "push" = some (some (.ref fNetworkPush)))
    (iNetworkPush : PySem.W.isFn K (.ref fNetworkPush) = true)
    (lNetworkPush : K.lookup fNetworkPush = some ⟨ocNetworkPush, odNetworkPush, .func (PySem.W.fnOf "push" "Network.push" (defArgs sNetworkPush) (defBody sNetworkPush) (defScope sNetworkPush) .none kVNetworkPush dcNetworkPush pmNetworkPush anNetworkPush cdNetworkPush ctNetworkPush), slNetworkPush⟩)
    (cNetworkPush : PySem.W.codeIn K cdNetworkPush "Network.push" = true)
    (kNetworkPush : PySem.W.keepIn K (.ref fNetworkPush) = true)
    (aNetworkFill : PySem.W.findIn K (.ref CN) "fill" = some (some (.ref fNetworkFill)))
    (iNetworkFill : PySem.W.isFn K (.ref fNetworkFill) = true)
    (lNetworkFill : K.lookup fNetworkFill = some ⟨ocNetworkFill, odNetworkFill, .func (PySem.W.fnOf "fill" "Network.fill" (defArgs sNetworkFill) (defBody sNetworkFill) (defScope sNetworkFill) .none kVNetworkFill dcNetworkFill pmNetworkFill anNetworkFill cdNetworkFill ctNetworkFill), slNetworkFill⟩)
    (cNetworkFill : PySem.W.codeIn K cdNetworkFill "Network.fill" = true)
    (kNetworkFill : PySem.W.keepIn K (.ref fNetworkFill) = true)
    (aSpreadNode : PySem.W.nsIn K mainGlobals "spread_node" = some (some (.ref fSpreadNode)))
    (lSpreadNode : K.lookup fSpreadNode = some ⟨ocSpreadNode, odSpreadNode, .func (PySem.W.fnOf "spread_node" "spread_node" (defArgs sSpreadNode) (defBody sSpreadNode) (defScope sSpreadNode) .none kVSpreadNode dcSpreadNode pmSpreadNode anSpreadNode cdSpreadNode ctSpreadNode), slSpreadNode⟩)
    (cSpreadNode : PySem.W.codeIn K cdSpreadNode "spread_node" = true)
    (kSpreadNode : PySem.W.keepIn K (.ref fSpreadNode) = true)
    (aLostNode : PySem.W.nsIn K mainGlobals "lost_node" = some (some (.ref fLostNode)))
    (lLostNode : K.lookup fLostNode = some ⟨ocLostNode, odLostNode, .func (PySem.W.fnOf "lost_node" "lost_node" (defArgs sLostNode) (defBody sLostNode) (defScope sLostNode) .none kVLostNode dcLostNode pmLostNode anLostNode cdLostNode ctLostNode), slLostNode⟩)
    (cLostNode : PySem.W.codeIn K cdLostNode "lost_node" = true)
    (kLostNode : PySem.W.keepIn K (.ref fLostNode) = true)
    (aConnectPoint : PySem.W.nsIn K mainGlobals "connect_point" = some (some (.ref fConnectPoint)))
    (lConnectPoint : K.lookup fConnectPoint = some ⟨ocConnectPoint, odConnectPoint, .func (PySem.W.fnOf "connect_point" "connect_point" (defArgs sConnectPoint) (defBody sConnectPoint) (defScope sConnectPoint) .none kVConnectPoint dcConnectPoint pmConnectPoint anConnectPoint cdConnectPoint ctConnectPoint), slConnectPoint⟩)
    (cConnectPoint : PySem.W.codeIn K cdConnectPoint "connect_point" = true)
    (kConnectPoint : PySem.W.keepIn K (.ref fConnectPoint) = true)
    (aNetworkOf : PySem.W.nsIn K mainGlobals "network_of" = some (some (.ref fNetworkOf)))
    (lNetworkOf : K.lookup fNetworkOf = some ⟨ocNetworkOf, odNetworkOf, .func (PySem.W.fnOf "network_of" "network_of" (defArgs sNetworkOf) (defBody sNetworkOf) (defScope sNetworkOf) .none kVNetworkOf dcNetworkOf pmNetworkOf anNetworkOf cdNetworkOf ctNetworkOf), slNetworkOf⟩)
    (cNetworkOf : PySem.W.codeIn K cdNetworkOf "network_of" = true)
    (kNetworkOf : PySem.W.keepIn K (.ref fNetworkOf) = true)
    (aLeastKeeps : PySem.W.nsIn K mainGlobals "least_keeps" = some (some (.ref fLeastKeeps)))
    (lLeastKeeps : K.lookup fLeastKeeps = some ⟨ocLeastKeeps, odLeastKeeps, .func (PySem.W.fnOf "least_keeps" "least_keeps" (defArgs sLeastKeeps) (defBody sLeastKeeps) (defScope sLeastKeeps) .none kVLeastKeeps dcLeastKeeps pmLeastKeeps anLeastKeeps cdLeastKeeps ctLeastKeeps), slLeastKeeps⟩)
    (cLeastKeeps : PySem.W.codeIn K cdLeastKeeps "least_keeps" = true)
    (kLeastKeeps : PySem.W.keepIn K (.ref fLeastKeeps) = true)
    (aPot : PySem.W.nsIn K mainGlobals "_law_pot" = some (some (.ref fPot)))
    (lPot : K.lookup fPot = some ⟨ocPot, odPot, .func (PySem.W.fnOf "_law_pot" "_law_pot" (defArgs sPot) (defBody sPot) (defScope sPot) .none kVPot dcPot pmPot anPot cdPot ctPot), slPot⟩)
    (cPot : PySem.W.codeIn K cdPot "_law_pot" = true)
    (kPot : PySem.W.keepIn K (.ref fPot) = true)
    (aDraw : PySem.W.nsIn K mainGlobals "_law_draw" = some (some (.ref fDraw)))
    (lDraw : K.lookup fDraw = some ⟨ocDraw, odDraw, .func (PySem.W.fnOf "_law_draw" "_law_draw" (defArgs sDraw) (defBody sDraw) (defScope sDraw) .none kVDraw dcDraw pmDraw anDraw cdDraw ctDraw), slDraw⟩)
    (cDraw : PySem.W.codeIn K cdDraw "_law_draw" = true)
    (kDraw : PySem.W.keepIn K (.ref fDraw) = true)
    (aShuffled : PySem.W.nsIn K mainGlobals "_law_shuffled" = some (some (.ref fShuffled)))
    (lShuffled : K.lookup fShuffled = some ⟨ocShuffled, odShuffled, .func (PySem.W.fnOf "_law_shuffled" "_law_shuffled" (defArgs sShuffled) (defBody sShuffled) (defScope sShuffled) .none kVShuffled dcShuffled pmShuffled anShuffled cdShuffled ctShuffled), slShuffled⟩)
    (cShuffled : PySem.W.codeIn K cdShuffled "_law_shuffled" = true)
    (kShuffled : PySem.W.keepIn K (.ref fShuffled) = true)
    (aNames : PySem.W.nsIn K mainGlobals "_law_names" = some (some (.ref fNames)))
    (lNames : K.lookup fNames = some ⟨ocNames, odNames, .func (PySem.W.fnOf "_law_names" "_law_names" (defArgs sNames) (defBody sNames) (defScope sNames) .none kVNames dcNames pmNames anNames cdNames ctNames), slNames⟩)
    (cNames : PySem.W.codeIn K cdNames "_law_names" = true)
    (kNames : PySem.W.keepIn K (.ref fNames) = true)
    (aSome : PySem.W.nsIn K mainGlobals "_law_some" = some (some (.ref fSome)))
    (lSome : K.lookup fSome = some ⟨ocSome, odSome, .func (PySem.W.fnOf "_law_some" "_law_some" (defArgs sSome) (defBody sSome) (defScope sSome) .none kVSome dcSome pmSome anSome cdSome ctSome), slSome⟩)
    (cSome : PySem.W.codeIn K cdSome "_law_some" = true)
    (kSome : PySem.W.keepIn K (.ref fSome) = true)
    (aRows : PySem.W.nsIn K mainGlobals "_law_rows" = some (some (.ref fRows)))
    (lRows : K.lookup fRows = some ⟨ocRows, odRows, .func (PySem.W.fnOf "_law_rows" "_law_rows" (defArgs sRows) (defBody sRows) (defScope sRows) .none kVRows dcRows pmRows anRows cdRows ctRows), slRows⟩)
    (cRows : PySem.W.codeIn K cdRows "_law_rows" = true)
    (kRows : PySem.W.keepIn K (.ref fRows) = true)
    (aSmall : PySem.W.nsIn K mainGlobals "_law_small" = some (some (.ref fSmall)))
    (lSmall : K.lookup fSmall = some ⟨ocSmall, odSmall, .func (PySem.W.fnOf "_law_small" "_law_small" (defArgs sSmall) (defBody sSmall) (defScope sSmall) .none kVSmall dcSmall pmSmall anSmall cdSmall ctSmall), slSmall⟩)
    (cSmall : PySem.W.codeIn K cdSmall "_law_small" = true)
    (kSmall : PySem.W.keepIn K (.ref fSmall) = true)
    (aBook : PySem.W.nsIn K mainGlobals "_law_book" = some (some (.ref fBook)))
    (lBook : K.lookup fBook = some ⟨ocBook, odBook, .func (PySem.W.fnOf "_law_book" "_law_book" (defArgs sBook) (defBody sBook) (defScope sBook) .none kVBook dcBook pmBook anBook cdBook ctBook), slBook⟩)
    (cBook : PySem.W.codeIn K cdBook "_law_book" = true)
    (kBook : PySem.W.keepIn K (.ref fBook) = true)
    (aIsThere : PySem.W.nsIn K mainGlobals "_law_is_there" = some (some (.ref fIsThere)))
    (lIsThere : K.lookup fIsThere = some ⟨ocIsThere, odIsThere, .func (PySem.W.fnOf "_law_is_there" "_law_is_there" (defArgs sIsThere) (defBody sIsThere) (defScope sIsThere) .none kVIsThere dcIsThere pmIsThere anIsThere cdIsThere ctIsThere), slIsThere⟩)
    (cIsThere : PySem.W.codeIn K cdIsThere "_law_is_there" = true)
    (kIsThere : PySem.W.keepIn K (.ref fIsThere) = true)
    (aIsLive : PySem.W.nsIn K mainGlobals "_law_is_live" = some (some (.ref fIsLive)))
    (lIsLive : K.lookup fIsLive = some ⟨ocIsLive, odIsLive, .func (PySem.W.fnOf "_law_is_live" "_law_is_live" (defArgs sIsLive) (defBody sIsLive) (defScope sIsLive) .none kVIsLive dcIsLive pmIsLive anIsLive cdIsLive ctIsLive), slIsLive⟩)
    (cIsLive : PySem.W.codeIn K cdIsLive "_law_is_live" = true)
    (kIsLive : PySem.W.keepIn K (.ref fIsLive) = true)
    (aLost : PySem.W.nsIn K mainGlobals "_law_lost" = some (some (.ref fLost)))
    (lLost : K.lookup fLost = some ⟨ocLost, odLost, .func (PySem.W.fnOf "_law_lost" "_law_lost" (defArgs sLost) (defBody sLost) (defScope sLost) .none kVLost dcLost pmLost anLost cdLost ctLost), slLost⟩)
    (cLost : PySem.W.codeIn K cdLost "_law_lost" = true)
    (kLost : PySem.W.keepIn K (.ref fLost) = true)
    (aIsEnough : PySem.W.nsIn K mainGlobals "_law_is_enough" = some (some (.ref fIsEnough)))
    (lIsEnough : K.lookup fIsEnough = some ⟨ocIsEnough, odIsEnough, .func (PySem.W.fnOf "_law_is_enough" "_law_is_enough" (defArgs sIsEnough) (defBody sIsEnough) (defScope sIsEnough) .none kVIsEnough dcIsEnough pmIsEnough anIsEnough cdIsEnough ctIsEnough), slIsEnough⟩)
    (cIsEnough : PySem.W.codeIn K cdIsEnough "_law_is_enough" = true)
    (kIsEnough : PySem.W.keepIn K (.ref fIsEnough) = true)
    (aCandidates : PySem.W.nsIn K mainGlobals "_law_candidates" = some (some (.ref fCandidates)))
    (lCandidates : K.lookup fCandidates = some ⟨ocCandidates, odCandidates, .func (PySem.W.fnOf "_law_candidates" "_law_candidates" (defArgs sCandidates) (defBody sCandidates) (defScope sCandidates) .none kVCandidates dcCandidates pmCandidates anCandidates cdCandidates ctCandidates), slCandidates⟩)
    (cCandidates : PySem.W.codeIn K cdCandidates "_law_candidates" = true)
    (kCandidates : PySem.W.keepIn K (.ref fCandidates) = true)
    (aSubsets : PySem.W.nsIn K mainGlobals "_law_subsets" = some (some (.ref fSubsets)))
    (lSubsets : K.lookup fSubsets = some ⟨ocSubsets, odSubsets, .func (PySem.W.fnOf "_law_subsets" "_law_subsets" (defArgs sSubsets) (defBody sSubsets) (defScope sSubsets) .none kVSubsets dcSubsets pmSubsets anSubsets cdSubsets ctSubsets), slSubsets⟩)
    (cSubsets : PySem.W.codeIn K cdSubsets "_law_subsets" = true)
    (kSubsets : PySem.W.keepIn K (.ref fSubsets) = true)
    (aRight : PySem.W.nsIn K mainGlobals "_law_right" = some (some (.ref fRight)))
    (lRight : K.lookup fRight = some ⟨ocRight, odRight, .func (PySem.W.fnOf "_law_right" "_law_right" (defArgs sRight) (defBody sRight) (defScope sRight) .none kVRight dcRight pmRight anRight cdRight ctRight), slRight⟩)
    (cRight : PySem.W.codeIn K cdRight "_law_right" = true)
    (kRight : PySem.W.keepIn K (.ref fRight) = true)
    (aLaw : PySem.W.nsIn K mainGlobals "law" = some (some (.ref fLaw)))
    (lLaw : K.lookup fLaw = some ⟨ocLaw, odLaw, .func (PySem.W.fnOf "law" "law" (defArgs sLaw) (defBody sLaw) (defScope sLaw) .none kVLaw dcLaw pmLaw anLaw cdLaw ctLaw), slLaw⟩)
    (cLaw : PySem.W.codeIn K cdLaw "law" = true)
    (kLaw : PySem.W.keepIn K (.ref fLaw) = true)
    (dTd : K.lookup Td = some ⟨cTd, odTd, .seq #[.ref Ed] nTd, slTd⟩)
    (pgCN : PySem.W.plainGet K CN Str.empty = true)
    (hdCN : PySem.W.hasDictIn K CN = true)
    (poCN : PySem.W.plainOver K CN = true)
    (saCN : PySem.W.findIn K (.ref CN) "__setattr__" = some (some (.builtin "object.__setattr__")))
    (mkCN : PySem.W.makesIn K CN = true)
    (kcCN : PySem.W.keepIn K (.ref CN) = true)
    (pgCS : PySem.W.plainGet K CS Str.empty = true)
    (hdCS : PySem.W.hasDictIn K CS = true)
    (poCS : PySem.W.plainOver K CS = true)
    (saCS : PySem.W.findIn K (.ref CS) "__setattr__" = some (some (.builtin "object.__setattr__")))
    (mkCS : PySem.W.makesIn K CS = true)
    (kcCS : PySem.W.keepIn K (.ref CS) = true)
    (naCNedges : PySem.W.findIn K (.ref CN) "edges" = some none)
    (naCNflows : PySem.W.findIn K (.ref CN) "flows" = some none)
    (naCNedgesat : PySem.W.findIn K (.ref CN) "edges_at" = some none)
    (naCSvalueplaces : PySem.W.findIn K (.ref CS) "value_places" = some none)
    (naCSownrows : PySem.W.findIn K (.ref CS) "own_rows" = some none)
    (naCSownout : PySem.W.findIn K (.ref CS) "own_out" = some none)
    (naCSstopplaces : PySem.W.findIn K (.ref CS) "stop_places" = some none)
    (naCSneedplaces : PySem.W.findIn K (.ref CS) "need_places" = some none)
    (gSOURCE : PySem.W.nsIn K mainGlobals "SOURCE" = some (some (.int 0 tSOURCE)))
    (gSINK : PySem.W.nsIn K mainGlobals "SINK" = some (some (.int 1 tSINK)))
    (gLEAF : PySem.W.nsIn K mainGlobals "LEAF" = some (some (.str "leaf" tLEAF)))
    (gSET : PySem.W.nsIn K mainGlobals "SET" = some (some (.str "set" tSET)))
    (gUSE : PySem.W.nsIn K mainGlobals "USE" = some (some (.str "use" tUSE)))
    (gSTOP : PySem.W.nsIn K mainGlobals "STOP" = some (some (.str "stop" tSTOP)))
    (zlen : PySem.W.nsIn K mainGlobals "len" = some none)
    (zrange : PySem.W.nsIn K mainGlobals "range" = some none)
    (zenumerate : PySem.W.nsIn K mainGlobals "enumerate" = some none)
    (zisinstance : PySem.W.nsIn K mainGlobals "isinstance" = some none)
    (zint : PySem.W.nsIn K mainGlobals "int" = some none)
    (zbool : PySem.W.nsIn K mainGlobals "bool" = some none)
    (ztuple : PySem.W.nsIn K mainGlobals "tuple" = some none)
    (zstr : PySem.W.nsIn K mainGlobals "str" = some none)
    (zlist : PySem.W.nsIn K mainGlobals "list" = some none)
    (zall : PySem.W.nsIn K mainGlobals "all" = some none)
    (zsorted : PySem.W.nsIn K mainGlobals "sorted" = some none)
    (zabs : PySem.W.nsIn K mainGlobals "abs" = some none)
    (zmax : PySem.W.nsIn K mainGlobals "max" = some none)
    (zmin : PySem.W.nsIn K mainGlobals "min" = some none)
    (zdivmod : PySem.W.nsIn K mainGlobals "divmod" = some none)
    : ∃ fd : FuncData, (∀ (s : Shared) (v : Value), BindsTo s fd ⟨[v], []⟩ [("_law_script", v)]) ∧ ∀ base : Heap, K.In base → base.Ns mainGlobals mg → FnOk l.prog w K mg base CX0 9 fa fd ["_law_script"] (spLaw K) := by
  have e := hfa.symm.trans (PySem.W.mg_of X G aLaw)
  cases e
  have T : Txt K mg CN CS := ⟨⟨pgCN, hdCN, poCN, saCN⟩, naCNedges, naCNflows, naCNedgesat, ⟨pgCS, hdCS, poCS, saCS⟩, naCSvalueplaces, naCSownrows, naCSownout, naCSstopplaces, naCSneedplaces, ⟨_, PySem.W.mg_of X G gSOURCE, ⟨_, rfl⟩⟩, ⟨_, PySem.W.mg_of X G gSINK, ⟨_, rfl⟩⟩, ⟨_, PySem.W.mg_of X G gLEAF, ⟨_, rfl⟩⟩, ⟨_, PySem.W.mg_of X G gSET, ⟨_, rfl⟩⟩, ⟨_, PySem.W.mg_of X G gUSE, ⟨_, rfl⟩⟩, ⟨_, PySem.W.mg_of X G gSTOP, ⟨_, rfl⟩⟩, PySem.W.mg_none_of X G zlen, PySem.W.mg_none_of X G zrange, PySem.W.mg_none_of X G zenumerate, PySem.W.mg_none_of X G zisinstance, PySem.W.mg_none_of X G zint, PySem.W.mg_none_of X G zbool, PySem.W.mg_none_of X G ztuple, PySem.W.mg_none_of X G zstr, PySem.W.mg_none_of X G zlist, PySem.W.mg_none_of X G zall, PySem.W.mg_none_of X G zsorted, PySem.W.mg_none_of X G zabs, PySem.W.mg_none_of X G zmax, PySem.W.mg_none_of X G zmin, PySem.W.mg_none_of X G zdivmod⟩
  have FIsInteger := fun_mk (st := sIsInteger) lIsInteger cIsInteger kIsInteger
  have bIsInteger := FIsInteger.binds (ps := PIsInteger) fun _ _ _ _ _ _ us hl => match us, hl with | [_], _ => rfl
  have FIsNew := fun_mk (st := sIsNew) lIsNew cIsNew kIsNew
  have bIsNew := FIsNew.binds (ps := PIsNew) fun _ _ _ _ _ _ us hl => match us, hl with | [_, _], _ => rfl
  have FAreSet := fun_mk (st := sAreSet) lAreSet cAreSet kAreSet
  have bAreSet := FAreSet.binds (ps := PAreSet) fun _ _ _ _ _ _ us hl => match us, hl with | [_, _], _ => rfl
  have FIsRow := fun_mk (st := sIsRow) lIsRow cIsRow kIsRow
  have bIsRow := FIsRow.binds (ps := PIsRow) fun _ _ _ _ _ _ us hl => match us, hl with | [_, _], _ => rfl
  have FPlacesIn := fun_mk (st := sPlacesIn) lPlacesIn cPlacesIn kPlacesIn
  have bPlacesIn := FPlacesIn.binds (ps := PPlacesIn) fun _ _ _ _ _ _ us hl => match us, hl with | [_], _ => rfl
  have FCheckOut := fun_mk (st := sCheckOut) lCheckOut cCheckOut kCheckOut
  have bCheckOut := FCheckOut.binds (ps := PCheckOut) fun _ _ _ _ _ _ us hl => match us, hl with | [_, _], _ => rfl
  have FNeededBy := fun_mk (st := sNeededBy) lNeededBy cNeededBy kNeededBy
  have bNeededBy := FNeededBy.binds (ps := PNeededBy) fun _ _ _ _ _ _ us hl => match us, hl with | [_], _ => rfl
  have FLastNeeds := fun_mk (st := sLastNeeds) lLastNeeds cLastNeeds kLastNeeds
  have bLastNeeds := FLastNeeds.binds (ps := PLastNeeds) fun _ _ _ _ _ _ us hl => match us, hl with | [_, _], _ => rfl
  have FStretchIsValue := fun_mk (st := sStretchIsValue) lStretchIsValue cStretchIsValue kStretchIsValue
  have bStretchIsValue := FStretchIsValue.binds (ps := PStretchIsValue) fun _ _ _ _ _ _ us hl => match us, hl with | [_, _], _ => rfl
  have FStretchIsStop := fun_mk (st := sStretchIsStop) lStretchIsStop cStretchIsStop kStretchIsStop
  have bStretchIsStop := FStretchIsStop.binds (ps := PStretchIsStop) fun _ _ _ _ _ _ us hl => match us, hl with | [_, _], _ => rfl
  have FStretchCheckValue := fun_mk (st := sStretchCheckValue) lStretchCheckValue cStretchCheckValue kStretchCheckValue
  have bStretchCheckValue := FStretchCheckValue.binds (ps := PStretchCheckValue) fun _ _ _ _ _ _ us hl => match us, hl with | [_, _], _ => rfl
  have FStretchCheckStop := fun_mk (st := sStretchCheckStop) lStretchCheckStop cStretchCheckStop kStretchCheckStop
  have bStretchCheckStop := FStretchCheckStop.binds (ps := PStretchCheckStop) fun _ _ _ _ _ _ us hl => match us, hl with | [_, _], _ => rfl
  have FStretchOperands := fun_mk (st := sStretchOperands) lStretchOperands cStretchOperands kStretchOperands
  have bStretchOperands := FStretchOperands.binds (ps := PStretchOperands) fun _ _ _ _ _ _ us hl => match us, hl with | [_, _], _ => rfl
  have FStretchAsked := fun_mk (st := sStretchAsked) lStretchAsked cStretchAsked kStretchAsked
  have bStretchAsked := FStretchAsked.binds (ps := PStretchAsked) fun _ _ _ _ _ _ us hl => match us, hl with | [_, _], _ => rfl
  have FStretchIsPresent := fun_mk (st := sStretchIsPresent) lStretchIsPresent cStretchIsPresent kStretchIsPresent
  have bStretchIsPresent := FStretchIsPresent.binds (ps := PStretchIsPresent) fun _ _ _ _ _ _ us hl => match us, hl with | [_, _, _], _ => rfl
  have FStretchIsLive := fun_mk (st := sStretchIsLive) lStretchIsLive cStretchIsLive kStretchIsLive
  have bStretchIsLive := FStretchIsLive.binds (ps := PStretchIsLive) fun _ _ _ _ _ _ us hl => match us, hl with | [_, _, _], _ => rfl
  have FStretchStops := fun_mk (st := sStretchStops) lStretchStops cStretchStops kStretchStops
  have bStretchStops := FStretchStops.binds (ps := PStretchStops) fun _ _ _ _ _ _ us hl => match us, hl with | [_], _ => rfl
  have FStretchPresent := fun_mk (st := sStretchPresent) lStretchPresent cStretchPresent kStretchPresent
  have bStretchPresent := FStretchPresent.binds (ps := PStretchPresent) fun _ _ _ _ _ _ us hl => match us, hl with | [_, _], _ => rfl
  have FStretchInit : FunD K "__init__" "Stretch.__init__" (defArgs sStretchInit) (defBody sStretchInit) (defScope sStretchInit) [V.ref Ed] [] fStretchInit _ := ⟨⟨_, _, _, _, _, _, _, _, _, _, rfl, lStretchInit, cStretchInit, .inr ⟨by simp, Td, _, [.ref Ed], nTd, rfl, dTd, rfl, .cons rfl .nil⟩, .inl rfl⟩, kStretchInit⟩
  obtain ⟨dsI, rI, bStretchInit⟩ := FStretchInit.binds1 (ps := PStretchInit) 3 1 (by simp) rfl fun _ _ _ _ _ _ _ us its h1 h2 => match us, its, h1, h2 with | [_, _, _], [_], _, _ => ⟨_, rfl, rfl⟩
  cases rI
  have FPointsOf := fun_mk (st := sPointsOf) lPointsOf cPointsOf kPointsOf
  have bPointsOf := FPointsOf.binds (ps := PPointsOf) fun _ _ _ _ _ _ us hl => match us, hl with | [_], _ => rfl
  have FNetworkInit := fun_mk (st := sNetworkInit) lNetworkInit cNetworkInit kNetworkInit
  have bNetworkInit := FNetworkInit.binds (ps := PNetworkInit) fun _ _ _ _ _ _ us hl => match us, hl with | [_, _], _ => rfl
  have FNetworkConnect := fun_mk (st := sNetworkConnect) lNetworkConnect cNetworkConnect kNetworkConnect
  have bNetworkConnect := FNetworkConnect.binds (ps := PNetworkConnect) fun _ _ _ _ _ _ us hl => match us, hl with | [_, _, _, _], _ => rfl
  have FNetworkNextNode := fun_mk (st := sNetworkNextNode) lNetworkNextNode cNetworkNextNode kNetworkNextNode
  have bNetworkNextNode := FNetworkNextNode.binds (ps := PNetworkNextNode) fun _ _ _ _ _ _ us hl => match us, hl with | [_, _, _], _ => rfl
  have FNetworkReached := fun_mk (st := sNetworkReached) lNetworkReached cNetworkReached kNetworkReached
  have bNetworkReached := FNetworkReached.binds (ps := PNetworkReached) fun _ _ _ _ _ _ us hl => match us, hl with | [_], _ => rfl
  have FNetworkPush := fun_mk (st := sNetworkPush) lNetworkPush cNetworkPush kNetworkPush
  have bNetworkPush := FNetworkPush.binds (ps := PNetworkPush) fun _ _ _ _ _ _ us hl => match us, hl with | [_, _], _ => rfl
  have FNetworkFill := fun_mk (st := sNetworkFill) lNetworkFill cNetworkFill kNetworkFill
  have bNetworkFill := FNetworkFill.binds (ps := PNetworkFill) fun _ _ _ _ _ _ us hl => match us, hl with | [_], _ => rfl
  have FSpreadNode := fun_mk (st := sSpreadNode) lSpreadNode cSpreadNode kSpreadNode
  have bSpreadNode := FSpreadNode.binds (ps := PSpreadNode) fun _ _ _ _ _ _ us hl => match us, hl with | [_], _ => rfl
  have FLostNode := fun_mk (st := sLostNode) lLostNode cLostNode kLostNode
  have bLostNode := FLostNode.binds (ps := PLostNode) fun _ _ _ _ _ _ us hl => match us, hl with | [_], _ => rfl
  have FConnectPoint := fun_mk (st := sConnectPoint) lConnectPoint cConnectPoint kConnectPoint
  have bConnectPoint := FConnectPoint.binds (ps := PConnectPoint) fun _ _ _ _ _ _ us hl => match us, hl with | [_, _, _, _, _], _ => rfl
  have FNetworkOf := fun_mk (st := sNetworkOf) lNetworkOf cNetworkOf kNetworkOf
  have bNetworkOf := FNetworkOf.binds (ps := PNetworkOf) fun _ _ _ _ _ _ us hl => match us, hl with | [_, _], _ => rfl
  have FLeastKeeps := fun_mk (st := sLeastKeeps) lLeastKeeps cLeastKeeps kLeastKeeps
  have bLeastKeeps := FLeastKeeps.binds (ps := PLeastKeeps) fun _ _ _ _ _ _ us hl => match us, hl with | [_], _ => rfl
  have FPot := fun_mk (st := sPot) lPot cPot kPot
  have bPot := FPot.binds (ps := PPot) fun _ _ _ _ _ _ us hl => match us, hl with | [_, _], _ => rfl
  have FDraw := fun_mk (st := sDraw) lDraw cDraw kDraw
  have bDraw := FDraw.binds (ps := PDraw) fun _ _ _ _ _ _ us hl => match us, hl with | [_, _], _ => rfl
  have FShuffled := fun_mk (st := sShuffled) lShuffled cShuffled kShuffled
  have bShuffled := FShuffled.binds (ps := PShuffled) fun _ _ _ _ _ _ us hl => match us, hl with | [_, _], _ => rfl
  have FNames := fun_mk (st := sNames) lNames cNames kNames
  have bNames := FNames.binds (ps := PNames) fun _ _ _ _ _ _ us hl => match us, hl with | [_, _], _ => rfl
  have FSome := fun_mk (st := sSome) lSome cSome kSome
  have bSome := FSome.binds (ps := PSome) fun _ _ _ _ _ _ us hl => match us, hl with | [_, _, _], _ => rfl
  have FRows := fun_mk (st := sRows) lRows cRows kRows
  have bRows := FRows.binds (ps := PRows) fun _ _ _ _ _ _ us hl => match us, hl with | [_, _, _, _], _ => rfl
  have FSmall := fun_mk (st := sSmall) lSmall cSmall kSmall
  have bSmall := FSmall.binds (ps := PSmall) fun _ _ _ _ _ _ us hl => match us, hl with | [_], _ => rfl
  have FBook := fun_mk (st := sBook) lBook cBook kBook
  have bBook := FBook.binds (ps := PBook) fun _ _ _ _ _ _ us hl => match us, hl with | [_, _], _ => rfl
  have FIsThere := fun_mk (st := sIsThere) lIsThere cIsThere kIsThere
  have bIsThere := FIsThere.binds (ps := PIsThere) fun _ _ _ _ _ _ us hl => match us, hl with | [_, _, _], _ => rfl
  have FIsLive := fun_mk (st := sIsLive) lIsLive cIsLive kIsLive
  have bIsLive := FIsLive.binds (ps := PIsLive) fun _ _ _ _ _ _ us hl => match us, hl with | [_, _, _], _ => rfl
  have FLost := fun_mk (st := sLost) lLost cLost kLost
  have bLost := FLost.binds (ps := PLost) fun _ _ _ _ _ _ us hl => match us, hl with | [_, _], _ => rfl
  have FIsEnough := fun_mk (st := sIsEnough) lIsEnough cIsEnough kIsEnough
  have bIsEnough := FIsEnough.binds (ps := PIsEnough) fun _ _ _ _ _ _ us hl => match us, hl with | [_, _], _ => rfl
  have FCandidates := fun_mk (st := sCandidates) lCandidates cCandidates kCandidates
  have bCandidates := FCandidates.binds (ps := PCandidates) fun _ _ _ _ _ _ us hl => match us, hl with | [_], _ => rfl
  have FSubsets := fun_mk (st := sSubsets) lSubsets cSubsets kSubsets
  have bSubsets := FSubsets.binds (ps := PSubsets) fun _ _ _ _ _ _ us hl => match us, hl with | [_], _ => rfl
  have FRight := fun_mk (st := sRight) lRight cRight kRight
  have bRight := FRight.binds (ps := PRight) fun _ _ _ _ _ _ us hl => match us, hl with | [_, _], _ => rfl
  have FLaw := fun_mk (st := sLaw) lLaw cLaw kLaw
  refine ⟨PySem.W.fnOf "law" "law" (defArgs sLaw) (defBody sLaw) (defScope sLaw) .none kVLaw dcLaw pmLaw anLaw cdLaw ctLaw, fun s v => .of_eq rfl, fun base _ _ => ?_⟩
  have GIsInteger := ok_IsInteger (P := l.prog) (w := w) (mg := mg) (base := base) FIsInteger T 
  have DIsInteger : Df l.prog w K mg base "is_integer" PIsInteger 1 (spIsInteger) := ⟨_, _, GIsInteger, PySem.W.mg_of X G aIsInteger, kIsInteger, bIsInteger⟩
  have GIsNew := ok_IsNew (P := l.prog) (w := w) (mg := mg) (base := base) FIsNew T DIsInteger
  have DIsNew : Df l.prog w K mg base "is_new" PIsNew 2 (spIsNew) := ⟨_, _, GIsNew, PySem.W.mg_of X G aIsNew, kIsNew, bIsNew⟩
  have GAreSet := ok_AreSet (P := l.prog) (w := w) (mg := mg) (base := base) FAreSet T DIsInteger
  have DAreSet : Df l.prog w K mg base "are_set" PAreSet 2 (spAreSet) := ⟨_, _, GAreSet, PySem.W.mg_of X G aAreSet, kAreSet, bAreSet⟩
  have GIsRow := ok_IsRow (P := l.prog) (w := w) (mg := mg) (base := base) FIsRow T DAreSet DIsNew
  have DIsRow : Df l.prog w K mg base "is_row" PIsRow 3 (spIsRow) := ⟨_, _, GIsRow, PySem.W.mg_of X G aIsRow, kIsRow, bIsRow⟩
  have GPlacesIn := ok_PlacesIn (P := l.prog) (w := w) (mg := mg) (base := base) FPlacesIn T DIsRow
  have DPlacesIn : Df l.prog w K mg base "places_in" PPlacesIn 4 (spPlacesIn) := ⟨_, _, GPlacesIn, PySem.W.mg_of X G aPlacesIn, kPlacesIn, bPlacesIn⟩
  have GCheckOut := ok_CheckOut (P := l.prog) (w := w) (mg := mg) (base := base) FCheckOut T DIsInteger
  have DCheckOut : Df l.prog w K mg base "check_out" PCheckOut 2 (spCheckOut) := ⟨_, _, GCheckOut, PySem.W.mg_of X G aCheckOut, kCheckOut, bCheckOut⟩
  have GNeededBy := ok_NeededBy (P := l.prog) (w := w) (mg := mg) (base := base) FNeededBy T 
  have DNeededBy : Df l.prog w K mg base "needed_by" PNeededBy 1 (spNeededBy) := ⟨_, _, GNeededBy, PySem.W.mg_of X G aNeededBy, kNeededBy, bNeededBy⟩
  have GLastNeeds := ok_LastNeeds (P := l.prog) (w := w) (mg := mg) (base := base) FLastNeeds T DNeededBy
  have DLastNeeds : Df l.prog w K mg base "last_needs" PLastNeeds 2 (spLastNeeds) := ⟨_, _, GLastNeeds, PySem.W.mg_of X G aLastNeeds, kLastNeeds, bLastNeeds⟩
  have GStretchIsValue := ok_StretchIsValue (P := l.prog) (w := w) (mg := mg) (base := base) FStretchIsValue T DIsInteger
  have DStretchIsValue : Md l.prog w K mg base CS "is_value" PStretchIsValue 2 (spIsValue CS) := ⟨_, _, GStretchIsValue, ⟨aStretchIsValue, iStretchIsValue, kStretchIsValue⟩, bStretchIsValue⟩
  have GStretchIsStop := ok_StretchIsStop (P := l.prog) (w := w) (mg := mg) (base := base) FStretchIsStop T DIsInteger
  have DStretchIsStop : Md l.prog w K mg base CS "is_stop" PStretchIsStop 2 (spIsStop CS) := ⟨_, _, GStretchIsStop, ⟨aStretchIsStop, iStretchIsStop, kStretchIsStop⟩, bStretchIsStop⟩
  have GStretchCheckValue := ok_StretchCheckValue (P := l.prog) (w := w) (mg := mg) (base := base) FStretchCheckValue T DStretchIsValue
  have DStretchCheckValue : Md l.prog w K mg base CS "check_value" PStretchCheckValue 3 (spCheckValue CS) := ⟨_, _, GStretchCheckValue, ⟨aStretchCheckValue, iStretchCheckValue, kStretchCheckValue⟩, bStretchCheckValue⟩
  have GStretchCheckStop := ok_StretchCheckStop (P := l.prog) (w := w) (mg := mg) (base := base) FStretchCheckStop T DStretchIsStop
  have DStretchCheckStop : Md l.prog w K mg base CS "check_stop" PStretchCheckStop 3 (spCheckStop CS) := ⟨_, _, GStretchCheckStop, ⟨aStretchCheckStop, iStretchCheckStop, kStretchCheckStop⟩, bStretchCheckStop⟩
  have GStretchOperands := ok_StretchOperands (P := l.prog) (w := w) (mg := mg) (base := base) FStretchOperands T DStretchCheckValue
  have DStretchOperands : Md l.prog w K mg base CS "operands" PStretchOperands 4 (spOperands CS) := ⟨_, _, GStretchOperands, ⟨aStretchOperands, iStretchOperands, kStretchOperands⟩, bStretchOperands⟩
  have GStretchAsked := ok_StretchAsked (P := l.prog) (w := w) (mg := mg) (base := base) FStretchAsked T DStretchCheckStop
  have DStretchAsked : Md l.prog w K mg base CS "asked" PStretchAsked 4 (spAsked CS) := ⟨_, _, GStretchAsked, ⟨aStretchAsked, iStretchAsked, kStretchAsked⟩, bStretchAsked⟩
  have GStretchIsPresent := ok_StretchIsPresent (P := l.prog) (w := w) (mg := mg) (base := base) FStretchIsPresent T 
  have DStretchIsPresent : Md l.prog w K mg base CS "is_present" PStretchIsPresent 1 (spIsPresent CS) := ⟨_, _, GStretchIsPresent, ⟨aStretchIsPresent, iStretchIsPresent, kStretchIsPresent⟩, bStretchIsPresent⟩
  have GStretchIsLive := ok_StretchIsLive (P := l.prog) (w := w) (mg := mg) (base := base) FStretchIsLive T DStretchIsPresent
  have DStretchIsLive : Md l.prog w K mg base CS "is_live" PStretchIsLive 2 (spStretchIsLive CS) := ⟨_, _, GStretchIsLive, ⟨aStretchIsLive, iStretchIsLive, kStretchIsLive⟩, bStretchIsLive⟩
  have GStretchStops := ok_StretchStops (P := l.prog) (w := w) (mg := mg) (base := base) FStretchStops T 
  have DStretchStops : Md l.prog w K mg base CS "stops" PStretchStops 1 (spStops CS) := ⟨_, _, GStretchStops, ⟨aStretchStops, iStretchStops, kStretchStops⟩, bStretchStops⟩
  have GStretchPresent := ok_StretchPresent (P := l.prog) (w := w) (mg := mg) (base := base) FStretchPresent T DStretchIsPresent
  have DStretchPresent : Md l.prog w K mg base CS "present" PStretchPresent 2 (spPresent CS) := ⟨_, _, GStretchPresent, ⟨aStretchPresent, iStretchPresent, kStretchPresent⟩, bStretchPresent⟩
  have GStretchInit := ok_StretchInit (P := l.prog) (w := w) (mg := mg) (base := base) FStretchInit T DCheckOut DLastNeeds DPlacesIn
  have DStretchInit : Mc l.prog w K mg base CS "Stretch" PStretchInit 5 (spStretchInit CS) := ⟨_, _, GStretchInit, ⟨mkCS, aStretchInit, iStretchInit, kcCS⟩, PySem.W.mg_of X G atCS, bStretchInit⟩
  have GPointsOf := ok_PointsOf (P := l.prog) (w := w) (mg := mg) (base := base) FPointsOf T DStretchPresent DStretchStops
  have DPointsOf : Df l.prog w K mg base "points_of" PPointsOf 3 (spPointsOf CS) := ⟨_, _, GPointsOf, PySem.W.mg_of X G aPointsOf, kPointsOf, bPointsOf⟩
  have GNetworkInit := ok_NetworkInit (P := l.prog) (w := w) (mg := mg) (base := base) FNetworkInit T 
  have DNetworkInit : Mc l.prog w K mg base CN "Network" PNetworkInit 1 (spNetworkInit CN) := ⟨_, _, GNetworkInit, ⟨mkCN, aNetworkInit, iNetworkInit, kcCN⟩, PySem.W.mg_of X G atCN, bNetworkInit⟩
  have GNetworkConnect := ok_NetworkConnect (P := l.prog) (w := w) (mg := mg) (base := base) FNetworkConnect T 
  have DNetworkConnect : Md l.prog w K mg base CN "connect" PNetworkConnect 1 (spConnect CN) := ⟨_, _, GNetworkConnect, ⟨aNetworkConnect, iNetworkConnect, kNetworkConnect⟩, bNetworkConnect⟩
  have GNetworkNextNode := ok_NetworkNextNode (P := l.prog) (w := w) (mg := mg) (base := base) FNetworkNextNode T 
  have DNetworkNextNode : Md l.prog w K mg base CN "next_node" PNetworkNextNode 1 (spNextNode CN) := ⟨_, _, GNetworkNextNode, ⟨aNetworkNextNode, iNetworkNextNode, kNetworkNextNode⟩, bNetworkNextNode⟩
  have GNetworkReached := ok_NetworkReached (P := l.prog) (w := w) (mg := mg) (base := base) FNetworkReached T DNetworkNextNode
  have DNetworkReached : Md l.prog w K mg base CN "reached" PNetworkReached 2 (spReached CN) := ⟨_, _, GNetworkReached, ⟨aNetworkReached, iNetworkReached, kNetworkReached⟩, bNetworkReached⟩
  have GNetworkPush := ok_NetworkPush (P := l.prog) (w := w) (mg := mg) (base := base) FNetworkPush T 
  have DNetworkPush : Md l.prog w K mg base CN "push" PNetworkPush 1 (spPush CN) := ⟨_, _, GNetworkPush, ⟨aNetworkPush, iNetworkPush, kNetworkPush⟩, bNetworkPush⟩
  have GNetworkFill := ok_NetworkFill (P := l.prog) (w := w) (mg := mg) (base := base) FNetworkFill T DNetworkPush DNetworkReached
  have DNetworkFill : Md l.prog w K mg base CN "fill" PNetworkFill 3 (spFill CN) := ⟨_, _, GNetworkFill, ⟨aNetworkFill, iNetworkFill, kNetworkFill⟩, bNetworkFill⟩
  have GSpreadNode := ok_SpreadNode (P := l.prog) (w := w) (mg := mg) (base := base) FSpreadNode T 
  have DSpreadNode : Df l.prog w K mg base "spread_node" PSpreadNode 1 (spSpreadNode) := ⟨_, _, GSpreadNode, PySem.W.mg_of X G aSpreadNode, kSpreadNode, bSpreadNode⟩
  have GLostNode := ok_LostNode (P := l.prog) (w := w) (mg := mg) (base := base) FLostNode T 
  have DLostNode : Df l.prog w K mg base "lost_node" PLostNode 1 (spLostNode) := ⟨_, _, GLostNode, PySem.W.mg_of X G aLostNode, kLostNode, bLostNode⟩
  have GConnectPoint := ok_ConnectPoint (P := l.prog) (w := w) (mg := mg) (base := base) FConnectPoint T DLostNode DSpreadNode DStretchAsked DNetworkConnect DStretchIsLive DStretchOperands
  have DConnectPoint : Df l.prog w K mg base "connect_point" PConnectPoint 5 (spConnectPoint CN CS) := ⟨_, _, GConnectPoint, PySem.W.mg_of X G aConnectPoint, kConnectPoint, bConnectPoint⟩
  have GNetworkOf := ok_NetworkOf (P := l.prog) (w := w) (mg := mg) (base := base) FNetworkOf T DConnectPoint DNetworkInit
  have DNetworkOf : Df l.prog w K mg base "network_of" PNetworkOf 6 (spNetworkOf CN CS) := ⟨_, _, GNetworkOf, PySem.W.mg_of X G aNetworkOf, kNetworkOf, bNetworkOf⟩
  have GLeastKeeps := ok_LeastKeeps (P := l.prog) (w := w) (mg := mg) (base := base) FLeastKeeps T DLostNode DNetworkOf DPointsOf DSpreadNode DNetworkFill DStretchIsLive
  have DLeastKeeps : Df l.prog w K mg base "least_keeps" PLeastKeeps 7 (spLeastKeeps CS) := ⟨_, _, GLeastKeeps, PySem.W.mg_of X G aLeastKeeps, kLeastKeeps, bLeastKeeps⟩
  have GPot := ok_Pot (P := l.prog) (w := w) (mg := mg) (base := base) FPot T 
  have DPot : Df l.prog w K mg base "_law_pot" PPot 1 (spPot K) := ⟨_, _, GPot, PySem.W.mg_of X G aPot, kPot, bPot⟩
  have GDraw := ok_Draw (P := l.prog) (w := w) (mg := mg) (base := base) FDraw T 
  have DDraw : Df l.prog w K mg base "_law_draw" PDraw 1 (spDraw) := ⟨_, _, GDraw, PySem.W.mg_of X G aDraw, kDraw, bDraw⟩
  have GShuffled := ok_Shuffled (P := l.prog) (w := w) (mg := mg) (base := base) FShuffled T DDraw
  have DShuffled : Df l.prog w K mg base "_law_shuffled" PShuffled 2 (spShuffled) := ⟨_, _, GShuffled, PySem.W.mg_of X G aShuffled, kShuffled, bShuffled⟩
  have GNames := ok_Names (P := l.prog) (w := w) (mg := mg) (base := base) FNames T DDraw DShuffled
  have DNames : Df l.prog w K mg base "_law_names" PNames 3 (spNames) := ⟨_, _, GNames, PySem.W.mg_of X G aNames, kNames, bNames⟩
  have GSome := ok_Some (P := l.prog) (w := w) (mg := mg) (base := base) FSome T DDraw
  have DSome : Df l.prog w K mg base "_law_some" PSome 2 (spSome) := ⟨_, _, GSome, PySem.W.mg_of X G aSome, kSome, bSome⟩
  have GRows := ok_Rows (P := l.prog) (w := w) (mg := mg) (base := base) FRows T DDraw DNames DShuffled DSome
  have DRows : Df l.prog w K mg base "_law_rows" PRows 4 (spRows) := ⟨_, _, GRows, PySem.W.mg_of X G aRows, kRows, bRows⟩
  have GSmall := ok_Small (P := l.prog) (w := w) (mg := mg) (base := base) FSmall T DDraw DRows
  have DSmall : Df l.prog w K mg base "_law_small" PSmall 5 (spSmall) := ⟨_, _, GSmall, PySem.W.mg_of X G aSmall, kSmall, bSmall⟩
  have GBook := ok_Book (P := l.prog) (w := w) (mg := mg) (base := base) FBook T 
  have DBook : Df l.prog w K mg base "_law_book" PBook 1 (spBook) := ⟨_, _, GBook, PySem.W.mg_of X G aBook, kBook, bBook⟩
  have GIsThere := ok_IsThere (P := l.prog) (w := w) (mg := mg) (base := base) FIsThere T 
  have DIsThere : Df l.prog w K mg base "_law_is_there" PIsThere 1 (spIsThere) := ⟨_, _, GIsThere, PySem.W.mg_of X G aIsThere, kIsThere, bIsThere⟩
  have GIsLive := ok_IsLive (P := l.prog) (w := w) (mg := mg) (base := base) FIsLive T DIsThere
  have DIsLive : Df l.prog w K mg base "_law_is_live" PIsLive 2 (spIsLive) := ⟨_, _, GIsLive, PySem.W.mg_of X G aIsLive, kIsLive, bIsLive⟩
  have GLost := ok_Lost (P := l.prog) (w := w) (mg := mg) (base := base) FLost T DIsLive DIsThere
  have DLost : Df l.prog w K mg base "_law_lost" PLost 3 (spLost) := ⟨_, _, GLost, PySem.W.mg_of X G aLost, kLost, bLost⟩
  have GIsEnough := ok_IsEnough (P := l.prog) (w := w) (mg := mg) (base := base) FIsEnough T DLost
  have DIsEnough : Df l.prog w K mg base "_law_is_enough" PIsEnough 4 (spIsEnough) := ⟨_, _, GIsEnough, PySem.W.mg_of X G aIsEnough, kIsEnough, bIsEnough⟩
  have GCandidates := ok_Candidates (P := l.prog) (w := w) (mg := mg) (base := base) FCandidates T DIsLive DIsThere
  have DCandidates : Df l.prog w K mg base "_law_candidates" PCandidates 3 (spCandidates) := ⟨_, _, GCandidates, PySem.W.mg_of X G aCandidates, kCandidates, bCandidates⟩
  have GSubsets := ok_Subsets (P := l.prog) (w := w) (mg := mg) (base := base) FSubsets T 
  have DSubsets : Df l.prog w K mg base "_law_subsets" PSubsets 1 (spSubsets) := ⟨_, _, GSubsets, PySem.W.mg_of X G aSubsets, kSubsets, bSubsets⟩
  have GRight := ok_Right (P := l.prog) (w := w) (mg := mg) (base := base) FRight T DBook DCandidates DIsEnough DLeastKeeps DLost DSubsets DStretchInit
  have DRight : Df l.prog w K mg base "_law_right" PRight 8 (spRight) := ⟨_, _, GRight, PySem.W.mg_of X G aRight, kRight, bRight⟩
  exact ok_Law FLaw T DPot DRight DSmall
theorem walk {l : PySem.W.OpenLaw} {q : Program} {loose : List Str} {XP : (Str → Option Value) → Heap → Prop} {YP : World → Heap → Prop} {d : DefRec} {K : Params → PySem.W.Frag} (most : l.most = some 63) (plain : d.params.defaults = [])
    (inn : ∀ (w : World) (h : Heap), YP w h → (K w.params).In h)
    (facts : ∀ (w : World) (mg : Str → Option Value) (fa : Addr) (h : Heap), (K w.params).In h → h.Ns mainGlobals mg → mg d.name = some (.ref fa) → ∃ fd : FuncData, (∀ (s : Shared) (u : Value), BindsTo s fd ⟨[u], []⟩ [("_law_script", u)]) ∧ ∀ base : Heap, (K w.params).In base → base.Ns mainGlobals mg → FnOk l.prog w (K w.params) mg base CX0 9 fa fd ["_law_script"] (spLaw (K w.params))) :
    PySem.W.WalkO q loose XP YP l.row.toRowW d [] (fun f vs => PySem.call f vs) :=
  L2.walk_of (n := 63) (k := 9) (x := "_law_script") (CX := fun _ => CX0) (sp := fun w => spLaw (K w.params)) most (by decide) plain ⟨rfl, by decide, by decide⟩ inn facts (fun _ _ a ns len _ sq => ⟨a, ns, rfl, sq, len, fun _ => rfl⟩) fun _ _ _ _ _ no => no
end LKW
open PySem PySem.W PyProof.Rows in
set_option maxRecDepth 100000 in
set_option maxHeartbeats 0 in
theorem PySem.Challenge.cw_leastlog_k63_whole_fewest_keeps_holds : PySem.Challenge.rw_leastlog_k63_whole_fewest_keeps.Holds := by
  w_on; o_law; k_head; (case hw => w_witness2)
  k_fill
  refine LKW.walk (l := PySem.Challenge.rw_leastlog_k63_whole_fewest_keeps) rfl rfl (fun w h Y => PySem.W.kIn_of Y) ?F
  case F =>
    intro w mg fa h KX G hmg
    refine' LKW.all_mk KX G hmg ?atCN ?atCS ?aIsInteger ?lIsInteger ?cIsInteger ?kIsInteger ?aIsNew ?lIsNew ?cIsNew ?kIsNew ?aAreSet ?lAreSet ?cAreSet ?kAreSet ?aIsRow ?lIsRow ?cIsRow ?kIsRow ?aPlacesIn ?lPlacesIn ?cPlacesIn ?kPlacesIn ?aCheckOut ?lCheckOut ?cCheckOut ?kCheckOut ?aNeededBy ?lNeededBy ?cNeededBy ?kNeededBy ?aLastNeeds ?lLastNeeds ?cLastNeeds ?kLastNeeds ?aStretchIsValue ?iStretchIsValue ?lStretchIsValue ?cStretchIsValue ?kStretchIsValue ?aStretchIsStop ?iStretchIsStop ?lStretchIsStop ?cStretchIsStop ?kStretchIsStop ?aStretchCheckValue ?iStretchCheckValue ?lStretchCheckValue ?cStretchCheckValue ?kStretchCheckValue ?aStretchCheckStop ?iStretchCheckStop ?lStretchCheckStop ?cStretchCheckStop ?kStretchCheckStop ?aStretchOperands ?iStretchOperands ?lStretchOperands ?cStretchOperands ?kStretchOperands ?aStretchAsked ?iStretchAsked ?lStretchAsked ?cStretchAsked ?kStretchAsked ?aStretchIsPresent ?iStretchIsPresent ?lStretchIsPresent ?cStretchIsPresent ?kStretchIsPresent ?aStretchIsLive ?iStretchIsLive ?lStretchIsLive ?cStretchIsLive ?kStretchIsLive ?aStretchStops ?iStretchStops ?lStretchStops ?cStretchStops ?kStretchStops ?aStretchPresent ?iStretchPresent ?lStretchPresent ?cStretchPresent ?kStretchPresent ?aStretchInit ?iStretchInit ?lStretchInit ?cStretchInit ?kStretchInit ?aPointsOf ?lPointsOf ?cPointsOf ?kPointsOf ?aNetworkInit ?iNetworkInit ?lNetworkInit ?cNetworkInit ?kNetworkInit ?aNetworkConnect ?iNetworkConnect ?lNetworkConnect ?cNetworkConnect ?kNetworkConnect ?aNetworkNextNode ?iNetworkNextNode ?lNetworkNextNode ?cNetworkNextNode ?kNetworkNextNode ?aNetworkReached ?iNetworkReached ?lNetworkReached ?cNetworkReached ?kNetworkReached ?aNetworkPush ?iNetworkPush ?lNetworkPush ?cNetworkPush ?kNetworkPush ?aNetworkFill ?iNetworkFill ?lNetworkFill ?cNetworkFill ?kNetworkFill ?aSpreadNode ?lSpreadNode ?cSpreadNode ?kSpreadNode ?aLostNode ?lLostNode ?cLostNode ?kLostNode ?aConnectPoint ?lConnectPoint ?cConnectPoint ?kConnectPoint ?aNetworkOf ?lNetworkOf ?cNetworkOf ?kNetworkOf ?aLeastKeeps ?lLeastKeeps ?cLeastKeeps ?kLeastKeeps ?aPot ?lPot ?cPot ?kPot ?aDraw ?lDraw ?cDraw ?kDraw ?aShuffled ?lShuffled ?cShuffled ?kShuffled ?aNames ?lNames ?cNames ?kNames ?aSome ?lSome ?cSome ?kSome ?aRows ?lRows ?cRows ?kRows ?aSmall ?lSmall ?cSmall ?kSmall ?aBook ?lBook ?cBook ?kBook ?aIsThere ?lIsThere ?cIsThere ?kIsThere ?aIsLive ?lIsLive ?cIsLive ?kIsLive ?aLost ?lLost ?cLost ?kLost ?aIsEnough ?lIsEnough ?cIsEnough ?kIsEnough ?aCandidates ?lCandidates ?cCandidates ?kCandidates ?aSubsets ?lSubsets ?cSubsets ?kSubsets ?aRight ?lRight ?cRight ?kRight ?aLaw ?lLaw ?cLaw ?kLaw ?dTd ?pgCN ?hdCN ?poCN ?saCN ?mkCN ?kcCN ?pgCS ?hdCS ?poCS ?saCS ?mkCS ?kcCS ?naCNedges ?naCNflows ?naCNedgesat ?naCSvalueplaces ?naCSownrows ?naCSownout ?naCSstopplaces ?naCSneedplaces ?gSOURCE ?gSINK ?gLEAF ?gSET ?gUSE ?gSTOP ?zlen ?zrange ?zenumerate ?zisinstance ?zint ?zbool ?ztuple ?zstr ?zlist ?zall ?zsorted ?zabs ?zmax ?zmin ?zdivmod
    (case atCN => k_is)
    (case atCS => k_is)
    (case aIsInteger => k_is)
    (case lIsInteger => k_is)
    (case cIsInteger => k_is)
    (case kIsInteger => k_is)
    (case aIsNew => k_is)
    (case lIsNew => k_is)
    (case cIsNew => k_is)
    (case kIsNew => k_is)
    (case aAreSet => k_is)
    (case lAreSet => k_is)
    (case cAreSet => k_is)
    (case kAreSet => k_is)
    (case aIsRow => k_is)
    (case lIsRow => k_is)
    (case cIsRow => k_is)
    (case kIsRow => k_is)
    (case aPlacesIn => k_is)
    (case lPlacesIn => k_is)
    (case cPlacesIn => k_is)
    (case kPlacesIn => k_is)
    (case aCheckOut => k_is)
    (case lCheckOut => k_is)
    (case cCheckOut => k_is)
    (case kCheckOut => k_is)
    (case aNeededBy => k_is)
    (case lNeededBy => k_is)
    (case cNeededBy => k_is)
    (case kNeededBy => k_is)
    (case aLastNeeds => k_is)
    (case lLastNeeds => k_is)
    (case cLastNeeds => k_is)
    (case kLastNeeds => k_is)
    (case aStretchIsValue => k_is)
    (case iStretchIsValue => k_is)
    (case lStretchIsValue => k_is)
    (case cStretchIsValue => k_is)
    (case kStretchIsValue => k_is)
    (case aStretchIsStop => k_is)
    (case iStretchIsStop => k_is)
    (case lStretchIsStop => k_is)
    (case cStretchIsStop => k_is)
    (case kStretchIsStop => k_is)
    (case aStretchCheckValue => k_is)
    (case iStretchCheckValue => k_is)
    (case lStretchCheckValue => k_is)
    (case cStretchCheckValue => k_is)
    (case kStretchCheckValue => k_is)
    (case aStretchCheckStop => k_is)
    (case iStretchCheckStop => k_is)
    (case lStretchCheckStop => k_is)
    (case cStretchCheckStop => k_is)
    (case kStretchCheckStop => k_is)
    (case aStretchOperands => k_is)
    (case iStretchOperands => k_is)
    (case lStretchOperands => k_is)
    (case cStretchOperands => k_is)
    (case kStretchOperands => k_is)
    (case aStretchAsked => k_is)
    (case iStretchAsked => k_is)
    (case lStretchAsked => k_is)
    (case cStretchAsked => k_is)
    (case kStretchAsked => k_is)
    (case aStretchIsPresent => k_is)
    (case iStretchIsPresent => k_is)
    (case lStretchIsPresent => k_is)
    (case cStretchIsPresent => k_is)
    (case kStretchIsPresent => k_is)
    (case aStretchIsLive => k_is)
    (case iStretchIsLive => k_is)
    (case lStretchIsLive => k_is)
    (case cStretchIsLive => k_is)
    (case kStretchIsLive => k_is)
    (case aStretchStops => k_is)
    (case iStretchStops => k_is)
    (case lStretchStops => k_is)
    (case cStretchStops => k_is)
    (case kStretchStops => k_is)
    (case aStretchPresent => k_is)
    (case iStretchPresent => k_is)
    (case lStretchPresent => k_is)
    (case cStretchPresent => k_is)
    (case kStretchPresent => k_is)
    (case aStretchInit => k_is)
    (case iStretchInit => k_is)
    (case lStretchInit => k_is)
    (case cStretchInit => k_is)
    (case kStretchInit => k_is)
    (case aPointsOf => k_is)
    (case lPointsOf => k_is)
    (case cPointsOf => k_is)
    (case kPointsOf => k_is)
    (case aNetworkInit => k_is)
    (case iNetworkInit => k_is)
    (case lNetworkInit => k_is)
    (case cNetworkInit => k_is)
    (case kNetworkInit => k_is)
    (case aNetworkConnect => k_is)
    (case iNetworkConnect => k_is)
    (case lNetworkConnect => k_is)
    (case cNetworkConnect => k_is)
    (case kNetworkConnect => k_is)
    (case aNetworkNextNode => k_is)
    (case iNetworkNextNode => k_is)
    (case lNetworkNextNode => k_is)
    (case cNetworkNextNode => k_is)
    (case kNetworkNextNode => k_is)
    (case aNetworkReached => k_is)
    (case iNetworkReached => k_is)
    (case lNetworkReached => k_is)
    (case cNetworkReached => k_is)
    (case kNetworkReached => k_is)
    (case aNetworkPush => k_is)
    (case iNetworkPush => k_is)
    (case lNetworkPush => k_is)
    (case cNetworkPush => k_is)
    (case kNetworkPush => k_is)
    (case aNetworkFill => k_is)
    (case iNetworkFill => k_is)
    (case lNetworkFill => k_is)
    (case cNetworkFill => k_is)
    (case kNetworkFill => k_is)
    (case aSpreadNode => k_is)
    (case lSpreadNode => k_is)
    (case cSpreadNode => k_is)
    (case kSpreadNode => k_is)
    (case aLostNode => k_is)
    (case lLostNode => k_is)
    (case cLostNode => k_is)
    (case kLostNode => k_is)
    (case aConnectPoint => k_is)
    (case lConnectPoint => k_is)
    (case cConnectPoint => k_is)
    (case kConnectPoint => k_is)
    (case aNetworkOf => k_is)
    (case lNetworkOf => k_is)
    (case cNetworkOf => k_is)
    (case kNetworkOf => k_is)
    (case aLeastKeeps => k_is)
    (case lLeastKeeps => k_is)
    (case cLeastKeeps => k_is)
    (case kLeastKeeps => k_is)
    (case aPot => k_is)
    (case lPot => k_is)
    (case cPot => k_is)
    (case kPot => k_is)
    (case aDraw => k_is)
    (case lDraw => k_is)
    (case cDraw => k_is)
    (case kDraw => k_is)
    (case aShuffled => k_is)
    (case lShuffled => k_is)
    (case cShuffled => k_is)
    (case kShuffled => k_is)
    (case aNames => k_is)
    (case lNames => k_is)
    (case cNames => k_is)
    (case kNames => k_is)
    (case aSome => k_is)
    (case lSome => k_is)
    (case cSome => k_is)
    (case kSome => k_is)
    (case aRows => k_is)
    (case lRows => k_is)
    (case cRows => k_is)
    (case kRows => k_is)
    (case aSmall => k_is)
    (case lSmall => k_is)
    (case cSmall => k_is)
    (case kSmall => k_is)
    (case aBook => k_is)
    (case lBook => k_is)
    (case cBook => k_is)
    (case kBook => k_is)
    (case aIsThere => k_is)
    (case lIsThere => k_is)
    (case cIsThere => k_is)
    (case kIsThere => k_is)
    (case aIsLive => k_is)
    (case lIsLive => k_is)
    (case cIsLive => k_is)
    (case kIsLive => k_is)
    (case aLost => k_is)
    (case lLost => k_is)
    (case cLost => k_is)
    (case kLost => k_is)
    (case aIsEnough => k_is)
    (case lIsEnough => k_is)
    (case cIsEnough => k_is)
    (case kIsEnough => k_is)
    (case aCandidates => k_is)
    (case lCandidates => k_is)
    (case cCandidates => k_is)
    (case kCandidates => k_is)
    (case aSubsets => k_is)
    (case lSubsets => k_is)
    (case cSubsets => k_is)
    (case kSubsets => k_is)
    (case aRight => k_is)
    (case lRight => k_is)
    (case cRight => k_is)
    (case kRight => k_is)
    (case aLaw => k_is)
    (case lLaw => k_is)
    (case cLaw => k_is)
    (case kLaw => k_is)
    (case dTd => k_is)
    (case pgCN => k_is)
    (case hdCN => k_is)
    (case poCN => k_is)
    (case saCN => k_is)
    (case mkCN => k_is)
    (case kcCN => k_is)
    (case pgCS => k_is)
    (case hdCS => k_is)
    (case poCS => k_is)
    (case saCS => k_is)
    (case mkCS => k_is)
    (case kcCS => k_is)
    (case naCNedges => k_is)
    (case naCNflows => k_is)
    (case naCNedgesat => k_is)
    (case naCSvalueplaces => k_is)
    (case naCSownrows => k_is)
    (case naCSownout => k_is)
    (case naCSstopplaces => k_is)
    (case naCSneedplaces => k_is)
    (case gSOURCE => k_is)
    (case gSINK => k_is)
    (case gLEAF => k_is)
    (case gSET => k_is)
    (case gUSE => k_is)
    (case gSTOP => k_is)
    (case zlen => k_is)
    (case zrange => k_is)
    (case zenumerate => k_is)
    (case zisinstance => k_is)
    (case zint => k_is)
    (case zbool => k_is)
    (case ztuple => k_is)
    (case zstr => k_is)
    (case zlist => k_is)
    (case zall => k_is)
    (case zsorted => k_is)
    (case zabs => k_is)
    (case zmax => k_is)
    (case zmin => k_is)
    (case zdivmod => k_is)
