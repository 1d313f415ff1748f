import PyProof.Rows.All
import Wide.All
import OpenK.AllK
import Wide.FinOn
import HandS.ForMost
import HandS.More
import HandS.Defaults
import HandS.HeadHook4
import PySem.Challenge.RW_fleetpath_k25_whole_links_go_on
import HandS.Lambda
import HandS.Nested
import HandS.SortKw
import KE.SortKeyHeap
import KE.KLam
import HandS.Rev
import HandS.RevTup
import HandS.Strs
import HandS.Zip
import HandS.SetKeys
import KE.KDictList
import KE.KStateDown
import Lean
import HandS.Head0
import HandS.Head1
import HandS.Head2
import HandS.HeadWalk
import HandS.IsInst
import HandS.Walk
import HandS.Evl
import HandS.Iter
set_option Elab.async false
set_option linter.all false
set_option maxRecDepth 100000
set_option maxHeartbeats 0
/-! FMath -/
/-! Plain mathematics: walks over ways, heights, all-pairs lengths. No program in sight. -/
namespace FM
section
variable {α : Type} [DecidableEq α]

/-- a way: origin, goal, minutes -/
abbrev Wy (α : Type) := α × α × Int

/-- ways one behind the other from a place to a place take so many minutes -/
inductive Wk (ws : List (Wy α)) (a : α) : α → Int → Prop
  | nil : Wk ws a a 0
  | snoc {b c : α} {l m : Int} : Wk ws a b l → (b, c, m) ∈ ws → Wk ws a c (l + m)

theorem Wk.app {ws : List (Wy α)} {a b c : α} {l k : Int} (p : Wk ws a b l) (q : Wk ws b c k) : Wk ws a c (l + k) := by
  induction q with
  | nil => rw [Int.add_zero]; exact p
  | snoc _ e ih => rw [← Int.add_assoc]; exact .snoc ih e
theorem Wk.one {ws : List (Wy α)} {a b : α} {m : Int} (e : (a, b, m) ∈ ws) : Wk ws a b m := by
  have h := Wk.snoc (Wk.nil (ws := ws) (a := a)) e
  rw [Int.zero_add] at h
  exact h
theorem Wk.nonneg {ws : List (Wy α)} (hp : ∀ e ∈ ws, 1 ≤ e.2.2) {a b : α} {l : Int} (p : Wk ws a b l) : 0 ≤ l := by
  induction p with
  | nil => exact Int.le_refl 0
  | snoc _ e ih =>
    have h := hp _ e
    simp only at h
    omega
theorem Wk.mem {ws : List (Wy α)} {ps : List α} (hm : ∀ e ∈ ws, e.1 ∈ ps ∧ e.2.1 ∈ ps) {a b : α} {l : Int} (p : Wk ws a b l) (ha : a ∈ ps) : b ∈ ps := by
  cases p with
  | nil => exact ha
  | snoc _ e => exact (hm _ e).2

/-- the heights of the place o -/
structure HS (ws : List (Wy α)) (o : α) (h : α → Option Int) : Prop where
  o0 : h o = some 0
  real : ∀ x v, h x = some v → Wk ws o x v
  clos : ∀ x y m v, (x, y, m) ∈ ws → h x = some v → ∃ u, h y = some u ∧ u ≤ v + m

theorem HS.least {ws : List (Wy α)} {o : α} {h : α → Option Int} (H : HS ws o h) {x : α} {c : Int} (p : Wk ws o x c) : ∃ v, h x = some v ∧ v ≤ c := by
  induction p with
  | nil => exact ⟨0, H.o0, Int.le_refl 0⟩
  | snoc _ e ih =>
    obtain ⟨v, hv, le⟩ := ih
    obtain ⟨u, hu, le2⟩ := H.clos _ _ _ _ e hv
    exact ⟨u, hu, by omega⟩
theorem HS.pred {ws : List (Wy α)} {o : α} {h : α → Option Int} (H : HS ws o h) {x : α} {v : Int} (hx : h x = some v) (ne : x ≠ o) : ∃ y m u, (y, x, m) ∈ ws ∧ h y = some u ∧ u + m = v := by
  have p := H.real x v hx
  cases p with
  | nil => exact absurd rfl ne
  | @snoc b _ l m q e =>
    obtain ⟨u, hu, le⟩ := H.least q
    obtain ⟨t, ht, le2⟩ := H.clos _ _ _ _ e hu
    rw [hx] at ht
    have e2 := Option.some.inj ht
    exact ⟨b, m, u, e, hu, by omega⟩
theorem HS.tri {ws : List (Wy α)} {a b c : α} {ha hb : α → Option Int} (A : HS ws a ha) (B : HS ws b hb) {u v : Int} (h1 : ha b = some u) (h2 : hb c = some v) : ∃ t, ha c = some t ∧ t ≤ u + v :=
  A.least ((A.real _ _ h1).app (B.real _ _ h2))
theorem HS.nonneg {ws : List (Wy α)} {o : α} {h : α → Option Int} (H : HS ws o h) (hp : ∀ e ∈ ws, 1 ≤ e.2.2) {x : α} {v : Int} (hx : h x = some v) : 0 ≤ v := (H.real _ _ hx).nonneg hp
theorem HS.mem {ws : List (Wy α)} {ps : List α} {o : α} {h : α → Option Int} (H : HS ws o h) (hm : ∀ e ∈ ws, e.1 ∈ ps ∧ e.2.1 ∈ ps) (ho : o ∈ ps) {x : α} {v : Int} (hx : h x = some v) : x ∈ ps := (H.real _ _ hx).mem hm ho

/-! ### counting -/
theorem countP_lt {p q : α → Bool} {l : List α} (h : ∀ x, x ∈ l → p x = true → q x = true) {y : α} (hy : y ∈ l) (h1 : q y = true) (h2 : p y = false) : l.countP p < l.countP q := by
  induction l with
  | nil => cases hy
  | cons z r ih =>
    have mono : r.countP p ≤ r.countP q := List.countP_mono_left fun x hx hp => h x (List.mem_cons_of_mem _ hx) hp
    rcases List.mem_cons.mp hy with rfl | hy'
    · rw [List.countP_cons_of_neg (by rw [h2]; decide), List.countP_cons_of_pos h1]
      omega
    · have l1 := ih (fun x hx hp => h x (List.mem_cons_of_mem _ hx) hp) hy'
      rw [List.countP_cons, List.countP_cons]
      have hz := h z List.mem_cons_self
      cases e1 : p z with
      | false => cases q z <;> simp <;> omega
      | true =>
        rw [hz e1]
        simp
        omega
theorem countP_len {p : α → Bool} {l : List α} {y : α} (hy : y ∈ l) (h : p y = false) : l.countP p < l.length := by
  have := countP_lt (p := p) (q := fun _ => true) (l := l) (fun _ _ _ => rfl) hy rfl h
  simpa using this
/-- places lower than v -/
def low (h : α → Option Int) (v : Int) (x : α) : Bool := match h x with
  | some u => decide (u < v)
  | none => false
theorem low_true {h : α → Option Int} {v : Int} {x : α} (e : low h v x = true) : ∃ u, h x = some u ∧ u < v := by
  unfold low at e
  cases q : h x with
  | none => rw [q] at e; cases e
  | some u => rw [q] at e; exact ⟨u, rfl, of_decide_eq_true e⟩
theorem low_of {h : α → Option Int} {v u : Int} {x : α} (e : h x = some u) (l : u < v) : low h v x = true := by
  unfold low; rw [e]; exact decide_eq_true l
theorem low_not {h : α → Option Int} {v u : Int} {x : α} (e : h x = some u) (l : v ≤ u) : low h v x = false := by
  unfold low; rw [e]; exact decide_eq_false (by omega)
/-- a height is at most F for each place that is lower -/
theorem HS.bound_aux {ws : List (Wy α)} {ps : List α} {o : α} {h : α → Option Int} {F : Int} (H : HS ws o h) (hm : ∀ e ∈ ws, e.1 ∈ ps ∧ e.2.1 ∈ ps) (ho : o ∈ ps) (hw : ∀ e ∈ ws, 1 ≤ e.2.2 ∧ e.2.2 ≤ F) (hF : 0 ≤ F) :
    ∀ (n : Nat) (x : α) (v : Int), h x = some v → ps.countP (low h v) ≤ n → v ≤ F * (n : Int) := by
  intro n
  induction n with
  | zero =>
    intro x v hx hc
    by_cases e : x = o
    · subst e
      have z := Option.some.inj (hx.symm.trans H.o0)
      subst z
      simp
    · obtain ⟨y, m, u, he, hy, hv⟩ := H.pred hx e
      have hmw := (hw _ he).1
      have := countP_lt (p := fun _ => false) (q := low h v) (l := ps) (fun _ _ z => by cases z) (H.mem hm ho hy) (low_of hy (by simp only at hmw; omega)) rfl
      omega
  | succ n ih =>
    intro x v hx hc
    by_cases e : x = o
    · subst e
      have z := Option.some.inj (hx.symm.trans H.o0)
      subst z
      exact Int.mul_nonneg hF (Int.natCast_nonneg _)
    · obtain ⟨y, m, u, he, hy, hv⟩ := H.pred hx e
      have hmw := hw _ he
      simp only at hmw
      have lt := countP_lt (p := low h u) (q := low h v) (l := ps) (fun z _ hz => by
        obtain ⟨t, ht, hl⟩ := low_true hz
        exact low_of ht (by omega)) (H.mem hm ho hy) (low_of hy (by omega)) (low_not hy (Int.le_refl _))
      have := ih y u hy (by omega)
      have e2 : F * ((n + 1 : Nat) : Int) = F * (n : Int) + F := by
        rw [Int.natCast_add, Int.mul_add]
        simp
      omega
theorem HS.bound {ws : List (Wy α)} {ps : List α} {o : α} {h : α → Option Int} {F : Int} {n : Nat} (H : HS ws o h) (hm : ∀ e ∈ ws, e.1 ∈ ps ∧ e.2.1 ∈ ps) (ho : o ∈ ps) (hw : ∀ e ∈ ws, 1 ≤ e.2.2 ∧ e.2.2 ≤ F) (hF : 0 ≤ F)
    (hn : ps.length ≤ n + 1) {x : α} {v : Int} (hx : h x = some v) : v ≤ F * (n : Int) := by
  refine H.bound_aux hm ho hw hF n x v hx ?_
  have := countP_len (p := low h v) (H.mem hm ho hx) (low_not hx (Int.le_refl _))
  omega

/-! ### all pairs: one mid after the other, in place -/
abbrev Tb (α : Type) := α → α → Option Int
def Tb.set (D : Tb α) (i j : α) (v : Int) : Tb α := fun a b => if a = i ∧ b = j then some v else D a b
/-- the less of two -/
def mn (x y : Int) : Int := if y < x then y else x
/-- one turn of the innermost loop -/
def relax (m i j : α) (D : Tb α) : Tb α := match D i m, D m j with
  | some x, some y => D.set i j (mn (x + y) ((D i j).getD (x + y)))
  | _, _ => D
def rowF (m i : α) (js : List α) (D : Tb α) : Tb α := js.foldl (fun D j => relax m i j D) D
def midF (m : α) (is js : List α) (D : Tb α) : Tb α := is.foldl (fun D i => rowF m i js D) D
def allF (ms is js : List α) (D : Tb α) : Tb α := ms.foldl (fun D m => midF m is js D) D
def edgeF (es : List (Wy α)) (D : Tb α) : Tb α := es.foldl (fun D e => D.set e.1 e.2.1 (mn e.2.2 ((D e.1 e.2.1).getD e.2.2))) D
def diagF (ps : List α) (D : Tb α) : Tb α := ps.foldl (fun D p => D.set p p 0) D

/-- what holds of all tables on the way -/
structure TbOk (ws : List (Wy α)) (D : Tb α) : Prop where
  real : ∀ a b v, D a b = some v → Wk ws a b v
theorem mn_le_l (x y : Int) : mn x y ≤ x := by unfold mn; split <;> omega
theorem mn_le_r (x y : Int) : mn x y ≤ y := by unfold mn; split <;> omega
theorem mn_or (x y : Int) : mn x y = x ∨ mn x y = y := by unfold mn; split <;> simp
theorem mn_self (x : Int) : mn x x = x := by unfold mn; split <;> rfl
theorem set_eq {D : Tb α} {i j : α} {v : Int} : D.set i j v i j = some v := if_pos ⟨rfl, rfl⟩
theorem set_ne {D : Tb α} {i j a b : α} {v : Int} (h : ¬ (a = i ∧ b = j)) : D.set i j v a b = D a b := if_neg h

/-- E comes of D within the phase of the mid m -/
structure Ph (m : α) (D E : Tb α) : Prop where
  le : ∀ a b v, D a b = some v → ∃ u, E a b = some u ∧ u ≤ v
  col : ∀ a, E a m = D a m
  row : ∀ b, E m b = D m b
  from_ : ∀ a b v, E a b = some v → D a b = some v ∨ ∃ x y, D a m = some x ∧ D m b = some y ∧ v = x + y
theorem Ph.refl (m : α) (D : Tb α) : Ph m D D := ⟨fun _ _ v h => ⟨v, h, Int.le_refl v⟩, fun _ => rfl, fun _ => rfl, fun _ _ _ h => .inl h⟩
theorem Ph.relax {m : α} {D E : Tb α} (hm : D m m = some 0) (P : Ph m D E) (i j : α) :
    Ph m D (relax m i j E) ∧ (∀ x y, D i m = some x → D m j = some y → ∃ v, relax m i j E i j = some v ∧ v ≤ x + y) ∧ ∀ a b v, E a b = some v → ∃ u, relax m i j E a b = some u ∧ u ≤ v := by
  unfold FM.relax
  cases h1 : E i m with
  | none =>
    refine ⟨P, fun x y hx _ => ?_, fun a b v h => ⟨v, h, Int.le_refl v⟩⟩
    rw [← P.col i, h1] at hx; cases hx
  | some x =>
    cases h2 : E m j with
    | none =>
      refine ⟨P, fun _ y _ hy => ?_, fun a b v h => ⟨v, h, Int.le_refl v⟩⟩
      rw [← P.row j, h2] at hy; cases hy
    | some y =>
      have d1 : D i m = some x := by rw [← P.col i]; exact h1
      have d2 : D m j = some y := by rw [← P.row j]; exact h2
      have mono : ∀ a b v, E a b = some v → ∃ u, Tb.set E i j (mn (x + y) ((E i j).getD (x + y))) a b = some u ∧ u ≤ v := by
        intro a b v h
        by_cases e : a = i ∧ b = j
        · obtain ⟨rfl, rfl⟩ := e
          rw [h]
          exact ⟨_, set_eq, mn_le_r _ _⟩
        · rw [set_ne e]
          exact ⟨v, h, Int.le_refl v⟩
      refine ⟨⟨fun a b v h => ?_, fun a => ?_, fun b => ?_, fun a b v h => ?_⟩, fun x' y' hx' hy' => ?_, mono⟩
      · obtain ⟨u, hu, l1⟩ := P.le a b v h
        obtain ⟨t, ht, l2⟩ := mono a b u hu
        exact ⟨t, ht, by omega⟩
      · by_cases e : a = i ∧ m = j
        · obtain ⟨rfl, rfl⟩ := e
          have y0 : y = 0 := by rw [hm] at d2; exact (Option.some.inj d2).symm
          subst y0
          show Tb.set E a m (mn (x + 0) ((E a m).getD (x + 0))) a m = D a m
          rw [set_eq, h1, d1]
          show some (mn (x + 0) x) = some x
          rw [Int.add_zero, mn_self]
        · show Tb.set E i j (mn (x + y) ((E i j).getD (x + y))) a m = D a m
          rw [set_ne e]; exact P.col a
      · by_cases e : m = i ∧ b = j
        · obtain ⟨rfl, rfl⟩ := e
          have x0 : x = 0 := by rw [hm] at d1; exact (Option.some.inj d1).symm
          subst x0
          show Tb.set E m b (mn (0 + y) ((E m b).getD (0 + y))) m b = D m b
          rw [set_eq, h2, d2]
          show some (mn (0 + y) y) = some y
          rw [Int.zero_add, mn_self]
        · show Tb.set E i j (mn (x + y) ((E i j).getD (x + y))) m b = D m b
          rw [set_ne e]; exact P.row b
      · have h : Tb.set E i j (mn (x + y) ((E i j).getD (x + y))) a b = some v := h
        by_cases e : a = i ∧ b = j
        · obtain ⟨rfl, rfl⟩ := e
          rw [set_eq] at h
          have hv := Option.some.inj h
          rcases mn_or (x + y) ((E a b).getD (x + y)) with q | q
          · exact .inr ⟨x, y, d1, d2, by rw [← hv, q]⟩
          · cases h3 : E a b with
            | none =>
              rw [h3] at q hv
              exact .inr ⟨x, y, d1, d2, by rw [← hv, q]; rfl⟩
            | some z =>
              rw [h3] at q hv
              have hz : z = v := by rw [← hv, q]; rfl
              rw [hz] at h3
              exact P.from_ a b v h3
        · rw [set_ne e] at h
          exact P.from_ a b v h
      · rw [d1] at hx'; rw [d2] at hy'
        cases hx'; cases hy'
        exact ⟨_, set_eq, mn_le_l _ _⟩
/-- by the mid m there is nothing shorter, among is × js -/
def Tri (D : Tb α) (m : α) (is js : List α) : Prop := ∀ i ∈ is, ∀ j ∈ js, ∀ x y, D i m = some x → D m j = some y → ∃ v, D i j = some v ∧ v ≤ x + y
theorem Ph.rowF {m : α} {D : Tb α} (hm : D m m = some 0) (i : α) : ∀ (js : List α) (E : Tb α), Ph m D E →
    Ph m D (rowF m i js E) ∧ (∀ j ∈ js, ∀ x y, D i m = some x → D m j = some y → ∃ v, rowF m i js E i j = some v ∧ v ≤ x + y) ∧ ∀ a b v, E a b = some v → ∃ u, rowF m i js E a b = some u ∧ u ≤ v
  | [], E, P => ⟨P, fun _ h => (nomatch h), fun a b v h => ⟨v, h, Int.le_refl v⟩⟩
  | j :: js, E, P => by
    obtain ⟨P1, t1, m1⟩ := P.relax hm i j
    obtain ⟨P2, t2, m2⟩ := Ph.rowF hm i js _ P1
    refine ⟨P2, fun j' hj x y hx hy => ?_, fun a b v h => ?_⟩
    · rcases List.mem_cons.mp hj with rfl | hj
      · obtain ⟨v, hv, l1⟩ := t1 x y hx hy
        obtain ⟨u, hu, l2⟩ := m2 _ _ _ hv
        exact ⟨u, hu, by omega⟩
      · exact t2 j' hj x y hx hy
    · obtain ⟨u, hu, l1⟩ := m1 a b v h
      obtain ⟨t, ht, l2⟩ := m2 a b u hu
      exact ⟨t, ht, by omega⟩
theorem Ph.midF {m : α} {D : Tb α} (hm : D m m = some 0) (js : List α) : ∀ (is : List α) (E : Tb α), Ph m D E →
    Ph m D (midF m is js E) ∧ (∀ i ∈ is, ∀ j ∈ js, ∀ x y, D i m = some x → D m j = some y → ∃ v, midF m is js E i j = some v ∧ v ≤ x + y) ∧ ∀ a b v, E a b = some v → ∃ u, midF m is js E a b = some u ∧ u ≤ v
  | [], E, P => ⟨P, fun _ h => (nomatch h), fun a b v h => ⟨v, h, Int.le_refl v⟩⟩
  | i :: is, E, P => by
    obtain ⟨P1, t1, m1⟩ := Ph.rowF hm i js E P
    obtain ⟨P2, t2, m2⟩ := Ph.midF hm js is _ P1
    refine ⟨P2, fun i' hi j hj x y hx hy => ?_, fun a b v h => ?_⟩
    · rcases List.mem_cons.mp hi with rfl | hi
      · obtain ⟨v, hv, l1⟩ := t1 j hj x y hx hy
        obtain ⟨u, hu, l2⟩ := m2 _ _ _ hv
        exact ⟨u, hu, by omega⟩
      · exact t2 i' hi j hj x y hx hy
    · obtain ⟨u, hu, l1⟩ := m1 a b v h
      obtain ⟨t, ht, l2⟩ := m2 a b u hu
      exact ⟨t, ht, by omega⟩
/-- the table is real, 0 on the line, not below 0 -/
structure Tk (ws : List (Wy α)) (ps : List α) (D : Tb α) : Prop where
  real : ∀ a b v, D a b = some v → Wk ws a b v
  line : ∀ p ∈ ps, D p p = some 0
  edge : ∀ e ∈ ws, ∃ u, D e.1 e.2.1 = some u ∧ u ≤ e.2.2
  on : ∀ a b v, D a b = some v → a ∈ ps ∧ b ∈ ps
theorem Tk.mid {ws : List (Wy α)} {ps : List α} {D : Tb α} (hp : ∀ e ∈ ws, 1 ≤ e.2.2) (T : Tk ws ps D) {m : α} (hm : m ∈ ps) {done : List α} (hd : ∀ k ∈ done, Tri D k ps ps) :
    Tk ws ps (midF m ps ps D) ∧ ∀ k, (k = m ∨ k ∈ done) → Tri (midF m ps ps D) k ps ps := by
  obtain ⟨P, t, _⟩ := Ph.midF (T.line m hm) ps ps D (Ph.refl m D)
  have T' : Tk ws ps (midF m ps ps D) := by
    refine ⟨fun a b v h => ?_, fun p hpp => ?_, fun e he => ?_, fun a b v h => ?_⟩
    · rcases P.from_ a b v h with q | ⟨x, y, hx, hy, rfl⟩
      · exact T.real a b v q
      · exact (T.real _ _ _ hx).app (T.real _ _ _ hy)
    · obtain ⟨u, hu, l⟩ := P.le p p 0 (T.line p hpp)
      have hz : 0 ≤ u := by
        rcases P.from_ p p u hu with q | ⟨x, y, hx, hy, rfl⟩
        · exact (T.real _ _ _ q).nonneg hp
        · exact ((T.real _ _ _ hx).app (T.real _ _ _ hy)).nonneg hp
      rw [hu, show u = 0 by omega]
    · obtain ⟨u, hu, l⟩ := T.edge e he
      obtain ⟨v, hv, l2⟩ := P.le _ _ _ hu
      exact ⟨v, hv, by omega⟩
    · rcases P.from_ a b v h with q | ⟨x, y, hx, hy, rfl⟩
      · exact T.on a b v q
      · exact ⟨(T.on _ _ _ hx).1, (T.on _ _ _ hy).2⟩
  refine ⟨T', fun k hk i hi j hj x y hx hy => ?_⟩
  have tm : ∀ i ∈ ps, ∀ j ∈ ps, ∀ x y, D i m = some x → D m j = some y → ∃ v, midF m ps ps D i j = some v ∧ v ≤ x + y := t
  rcases hk with rfl | hk
  · rw [P.col] at hx
    rw [P.row] at hy
    exact tm i hi j hj x y hx hy
  · have hT := hd k hk
    rcases P.from_ i k x hx with q1 | ⟨x1, x2, h1, h2, rfl⟩
    · rcases P.from_ k j y hy with q2 | ⟨y1, y2, h3, h4, rfl⟩
      · obtain ⟨v, hv, l⟩ := hT i hi j hj x y q1 q2
        obtain ⟨u, hu, l2⟩ := P.le _ _ _ hv
        exact ⟨u, hu, by omega⟩
      · obtain ⟨v, hv, l⟩ := hT i hi m hm x y1 q1 h3
        obtain ⟨u, hu, l2⟩ := tm i hi j hj v y2 hv h4
        exact ⟨u, hu, by omega⟩
    · rcases P.from_ k j y hy with q2 | ⟨y1, y2, h3, h4, rfl⟩
      · obtain ⟨v, hv, l⟩ := hT m hm j hj x2 y h2 q2
        obtain ⟨u, hu, l2⟩ := tm i hi j hj x1 v h1 hv
        exact ⟨u, hu, by omega⟩
      · obtain ⟨u, hu, l2⟩ := tm i hi j hj x1 y2 h1 h4
        have n1 := (T.real _ _ _ h2).nonneg hp
        have n2 := (T.real _ _ _ h3).nonneg hp
        exact ⟨u, hu, by omega⟩
theorem Tk.all {ws : List (Wy α)} {ps : List α} (hp : ∀ e ∈ ws, 1 ≤ e.2.2) : ∀ (ms : List α) (D : Tb α) (done : List α), (∀ m ∈ ms, m ∈ ps) → Tk ws ps D → (∀ k ∈ done, Tri D k ps ps) →
    Tk ws ps (allF ms ps ps D) ∧ ∀ k, (k ∈ ms ∨ k ∈ done) → Tri (allF ms ps ps D) k ps ps
  | [], D, done, _, T, hd => ⟨T, fun k hk => hk.elim (fun z => nomatch z) (hd k)⟩
  | m :: ms, D, done, hm, T, hd => by
    obtain ⟨T1, h1⟩ := T.mid hp (hm m List.mem_cons_self) hd
    obtain ⟨T2, h2⟩ := Tk.all hp ms (midF m ps ps D) (m :: done) (fun x hx => hm x (List.mem_cons_of_mem _ hx)) T1 (fun k hk => h1 k (List.mem_cons.mp hk))
    refine ⟨T2, fun k hk => h2 k ?_⟩
    rcases hk with hk | hk
    · rcases List.mem_cons.mp hk with rfl | hk
      · exact .inr List.mem_cons_self
      · exact .inl hk
    · exact .inr (List.mem_cons_of_mem _ hk)
/-- the beginning -/
theorem diag_at (ps : List α) : ∀ (D : Tb α) (a b : α), diagF ps D a b = if a = b ∧ a ∈ ps then some 0 else D a b := by
  induction ps with
  | nil => intro D a b; rw [if_neg (by simp)]; rfl
  | cons p ps ih =>
    intro D a b
    show diagF ps (D.set p p 0) a b = _
    rw [ih]
    by_cases e : a = b ∧ a ∈ ps
    · rw [if_pos e, if_pos ⟨e.1, List.mem_cons_of_mem _ e.2⟩]
    · rw [if_neg e]
      by_cases q : a = p ∧ b = p
      · obtain ⟨rfl, rfl⟩ := q
        rw [set_eq, if_pos ⟨rfl, List.mem_cons_self⟩]
      · rw [set_ne q, if_neg]
        rintro ⟨rfl, h⟩
        rcases List.mem_cons.mp h with rfl | h
        · exact q ⟨rfl, rfl⟩
        · exact e ⟨rfl, h⟩
theorem edge_ok {ws : List (Wy α)} {ps : List α} (hm : ∀ e ∈ ws, e.1 ∈ ps ∧ e.2.1 ∈ ps) (hp : ∀ e ∈ ws, 1 ≤ e.2.2) : ∀ (es : List (Wy α)) (D : Tb α), (∀ e ∈ es, e ∈ ws) →
    (∀ a b v, D a b = some v → Wk ws a b v) → (∀ p ∈ ps, D p p = some 0) → (∀ a b v, D a b = some v → a ∈ ps ∧ b ∈ ps) →
    (∀ a b v, edgeF es D a b = some v → Wk ws a b v) ∧ (∀ p ∈ ps, edgeF es D p p = some 0) ∧ (∀ e ∈ es, ∃ u, edgeF es D e.1 e.2.1 = some u ∧ u ≤ e.2.2) ∧ (∀ a b v, edgeF es D a b = some v → a ∈ ps ∧ b ∈ ps) ∧ ∀ a b v, D a b = some v → ∃ u, edgeF es D a b = some u ∧ u ≤ v
  | [], D, _, hr, hl, ho => ⟨hr, hl, fun _ h => (nomatch h), ho, fun a b v h => ⟨v, h, Int.le_refl v⟩⟩
  | e :: es, D, hs, hr, hl, ho => by
    have he := hs e List.mem_cons_self
    have mono : ∀ a b v, D a b = some v → ∃ u, D.set e.1 e.2.1 (mn e.2.2 ((D e.1 e.2.1).getD e.2.2)) a b = some u ∧ u ≤ v := by
      intro a b v h
      by_cases q : a = e.1 ∧ b = e.2.1
      · obtain ⟨rfl, rfl⟩ := q
        rw [set_eq, h]
        exact ⟨_, rfl, mn_le_r _ _⟩
      · rw [set_ne q]; exact ⟨v, h, Int.le_refl v⟩
    have r1 : ∀ a b v, D.set e.1 e.2.1 (mn e.2.2 ((D e.1 e.2.1).getD e.2.2)) a b = some v → Wk ws a b v := by
      intro a b v h
      by_cases q : a = e.1 ∧ b = e.2.1
      · obtain ⟨rfl, rfl⟩ := q
        rw [set_eq] at h
        have hv := Option.some.inj h
        have w1 : Wk ws e.1 e.2.1 e.2.2 := Wk.one he
        rcases mn_or e.2.2 ((D e.1 e.2.1).getD e.2.2) with z | z
        · rw [← hv, z]; exact w1
        · cases h3 : D e.1 e.2.1 with
          | none => rw [h3] at z hv; rw [← hv, z]; exact w1
          | some t => rw [h3] at z hv; rw [← hv, z]; exact hr _ _ _ h3
      · rw [set_ne q] at h; exact hr _ _ _ h
    have o1 : ∀ a b v, D.set e.1 e.2.1 (mn e.2.2 ((D e.1 e.2.1).getD e.2.2)) a b = some v → a ∈ ps ∧ b ∈ ps := by
      intro a b v h
      by_cases q : a = e.1 ∧ b = e.2.1
      · obtain ⟨rfl, rfl⟩ := q; exact hm _ he
      · rw [set_ne q] at h; exact ho _ _ _ h
    have l1 : ∀ p ∈ ps, D.set e.1 e.2.1 (mn e.2.2 ((D e.1 e.2.1).getD e.2.2)) p p = some 0 := by
      intro p hpp
      obtain ⟨u, hu, le⟩ := mono p p 0 (hl p hpp)
      have := (r1 _ _ _ hu).nonneg hp
      rw [hu, show u = 0 by omega]
    obtain ⟨a1, a2, a3, a4, a5⟩ := edge_ok hm hp es (D.set e.1 e.2.1 (mn e.2.2 ((D e.1 e.2.1).getD e.2.2))) (fun x hx => hs x (List.mem_cons_of_mem _ hx)) r1 l1 o1
    refine ⟨a1, a2, fun e' he' => ?_, a4, fun a b v h => ?_⟩
    · rcases List.mem_cons.mp he' with rfl | he'
      · obtain ⟨u, hu, l⟩ := a5 e'.1 e'.2.1 _ set_eq
        have := mn_le_l e'.2.2 ((D e'.1 e'.2.1).getD e'.2.2)
        exact ⟨u, hu, by omega⟩
      · exact a3 e' he'
    · obtain ⟨u, hu, l⟩ := mono a b v h
      obtain ⟨t, ht, l2⟩ := a5 a b u hu
      exact ⟨t, ht, by omega⟩
/-- all lengths -/
def lens (ps : List α) (ws : List (Wy α)) : Tb α := allF ps ps ps (edgeF ws (diagF ps fun _ _ => none))
structure LenOk (ps : List α) (ws : List (Wy α)) (F4 : Int) (D : Tb α) : Prop where
  line : ∀ p ∈ ps, D p p = some 0
  real : ∀ a b v, D a b = some v → Wk ws a b v
  top : ∀ a b v, D a b = some v → 0 ≤ v ∧ v ≤ F4
theorem lens_ok {ps : List α} {ws : List (Wy α)} {F : Int} {n : Nat} (hm : ∀ e ∈ ws, e.1 ∈ ps ∧ e.2.1 ∈ ps) (hw : ∀ e ∈ ws, 1 ≤ e.2.2 ∧ e.2.2 ≤ F) (hF : 0 ≤ F) (hn : ps.length ≤ n + 1) : LenOk ps ws (F * (n : Int)) (lens ps ws) := by
  have hp : ∀ e ∈ ws, 1 ≤ e.2.2 := fun e he => (hw e he).1
  obtain ⟨a1, a2, a3, a4, _⟩ := edge_ok hm hp ws (diagF ps fun _ _ => none) (fun _ h => h)
    (fun a b v h => by
      rw [diag_at] at h
      split at h
      · rename_i q
        cases h
        rw [q.1]
        exact .nil
      · cases h)
    (fun p hpp => by rw [diag_at, if_pos ⟨rfl, hpp⟩])
    (fun a b v h => by
      rw [diag_at] at h
      split at h
      · rename_i q
        exact ⟨q.2, q.1 ▸ q.2⟩
      · cases h)
  obtain ⟨T, tri⟩ := Tk.all hp ps (edgeF ws (diagF ps fun _ _ => none)) [] (fun _ h => h) ⟨a1, a2, a3, a4⟩ (fun _ h => nomatch h)
  refine ⟨T.line, T.real, fun a b v h => ?_⟩
  have ha := (T.on a b v h).1
  have H : HS ws a (lens ps ws a) := by
    refine ⟨T.line a ha, T.real a, fun x y m u he hx => ?_⟩
    obtain ⟨t, ht, l⟩ := T.edge _ he
    have hxy := hm _ he
    obtain ⟨z, hz, l2⟩ := tri x (.inl hxy.1) a ha y hxy.2 u t hx ht
    exact ⟨z, hz, by simp only at l; omega⟩
  exact ⟨H.nonneg hp h, H.bound hm ha hw hF hn h⟩

/-! ### the heights' loop -/
/-- a list of pairs as a dict: what stands at a key, what a store makes of it -/
def lk (hs : List (α × Int)) (k : α) : Option Int := (hs.find? fun kv => decide (kv.1 = k)).map (·.2)
def pt (hs : List (α × Int)) (k : α) (v : Int) : List (α × Int) :=
  if (hs.any fun kv => decide (kv.1 = k)) = true then hs.map (fun kv => if kv.1 = k then (kv.1, v) else kv) else hs ++ [(k, v)]
theorem lk_any (hs : List (α × Int)) (k : α) : (hs.any fun kv => decide (kv.1 = k)) = (lk hs k).isSome := by
  induction hs with
  | nil => rfl
  | cons p r ih =>
    unfold lk at ih ⊢
    rw [List.any_cons, List.find?_cons]
    by_cases e : p.1 = k
    · simp [e]
    · simp only [decide_eq_false e, Bool.false_or]
      exact ih
theorem lk_pt (hs : List (α × Int)) (k j : α) (v : Int) : lk (pt hs k v) j = if j = k then some v else lk hs j := by
  unfold pt
  by_cases a : (hs.any fun kv => decide (kv.1 = k)) = true
  · rw [if_pos a]
    rw [lk_any] at a
    have gen : ∀ r : List (α × Int), lk (r.map (fun kv => if kv.1 = k then (kv.1, v) else kv)) j = (lk r j).map fun x => if j = k then v else x := by
      intro r
      induction r with
      | nil => rfl
      | cons p r ih =>
        unfold lk at ih ⊢
        rw [List.map_cons, List.find?_cons, List.find?_cons]
        by_cases h : p.1 = k
        · rw [if_pos h]
          by_cases q : p.1 = j
          · simp [q, ← h]
          · simp only [decide_eq_false q]
            exact ih
        · rw [if_neg h]
          by_cases q : p.1 = j
          · have : ¬ j = k := fun z => h (q.trans z)
            simp [q, this]
          · simp only [decide_eq_false q]
            exact ih
    rw [gen]
    by_cases e : j = k
    · subst e
      obtain ⟨x, hx⟩ := Option.isSome_iff_exists.mp a
      rw [hx]
      simp
    · rw [if_neg e]
      cases lk hs j <;> simp [e]
  · rw [if_neg a]
    rw [lk_any] at a
    have hn : lk hs k = none := by
      cases q : lk hs k with
      | none => rfl
      | some x => rw [q] at a; simp at a
    unfold lk at hn ⊢
    rw [List.find?_append]
    by_cases e : j = k
    · subst e
      rw [if_pos rfl]
      cases q : hs.find? fun kv => decide (kv.1 = j) with
      | none => simp
      | some x => rw [q] at hn; simp at hn
    · rw [if_neg e]
      cases q : hs.find? fun kv => decide (kv.1 = j) with
      | none =>
        have : ¬ k = j := fun z => e z.symm
        simp [this]
      | some x => simp
theorem pt_len (hs : List (α × Int)) (k : α) (v : Int) : (pt hs k v).length = hs.length + if (lk hs k).isSome = true then 0 else 1 := by
  unfold pt
  rw [lk_any]
  by_cases a : (lk hs k).isSome = true
  · rw [if_pos a, if_pos a, List.length_map]; rfl
  · rw [if_neg a, if_neg a, List.length_append]; rfl
/-- places without a height -/
def open_ (ps : List α) (h : α → Option Int) : Nat := ps.countP fun p => (h p).isNone
/-- what the heights weigh -/
def weigh (B : Nat) : Option Int → Nat
  | none => B
  | some v => v.toNat
def mass (ps : List α) (B : Nat) (h : α → Option Int) : Nat := (ps.map fun p => weigh B (h p)).sum
theorem sum_lt {f g : α → Nat} : ∀ {l : List α}, (∀ x ∈ l, f x ≤ g x) → (∃ x, x ∈ l ∧ f x < g x) → (l.map f).sum < (l.map g).sum
  | [], _, ⟨_, h, _⟩ => nomatch h
  | z :: r, h, ⟨x, hx, l⟩ => by
    rw [List.map_cons, List.map_cons, List.sum_cons, List.sum_cons]
    have h0 := h z List.mem_cons_self
    have hr : ∀ x ∈ r, f x ≤ g x := fun x hx => h x (List.mem_cons_of_mem _ hx)
    have le : ∀ l : List α, (∀ x ∈ l, f x ≤ g x) → (l.map f).sum ≤ (l.map g).sum := by
      intro l
      induction l with
      | nil => intro _; exact Nat.le_refl _
      | cons y s ih =>
        intro hs
        rw [List.map_cons, List.map_cons, List.sum_cons, List.sum_cons]
        have := ih fun x hx => hs x (List.mem_cons_of_mem _ hx)
        have := hs y List.mem_cons_self
        omega
    rcases List.mem_cons.mp hx with rfl | hx
    · have := le r hr
      omega
    · have := sum_lt hr ⟨x, hx, l⟩
      omega
/-- on the way -/
structure HW (ps : List α) (ws : List (Wy α)) (F : Int) (o : α) (hs : List (α × Int)) : Prop where
  o0 : lk hs o = some 0
  real : ∀ x v, lk hs x = some v → Wk ws o x v
  len : hs.length + open_ ps (lk hs) ≤ ps.length
  top : ∀ x v, lk hs x = some v → v + F * (open_ ps (lk hs) : Int) ≤ F * (ps.length : Int)
theorem HW.start {ps : List α} {ws : List (Wy α)} {F : Int} {o : α} (hF : 0 ≤ F) (ho : o ∈ ps) : HW ps ws F o [(o, 0)] := by
  have h0 : lk [(o, (0 : Int))] o = some 0 := by simp [lk]
  have hx : ∀ x v, lk [(o, (0 : Int))] x = some v → x = o ∧ v = 0 := by
    intro x v h
    unfold lk at h
    rw [List.find?_cons] at h
    by_cases e : o = x
    · rw [decide_eq_true e] at h
      have := Option.some.inj h
      exact ⟨e.symm, this.symm⟩
    · rw [decide_eq_false e] at h
      simp at h
  have hl : open_ ps (lk [(o, (0 : Int))]) < ps.length := countP_len ho (by rw [h0]; rfl)
  refine ⟨h0, fun x v h => ?_, ?_, fun x v h => ?_⟩
  · obtain ⟨rfl, rfl⟩ := hx x v h
    exact .nil
  · show 1 + _ ≤ _
    omega
  · obtain ⟨rfl, rfl⟩ := hx x v h
    rw [Int.zero_add]
    exact Int.mul_le_mul_of_nonneg_left (by omega) hF
/-- a way's step: what is told, what it does -/
theorem HW.step {ps : List α} {ws : List (Wy α)} {F : Int} {o : α} {hs : List (α × Int)} (hm : ∀ e ∈ ws, e.1 ∈ ps ∧ e.2.1 ∈ ps) (hw : ∀ e ∈ ws, 1 ≤ e.2.2 ∧ e.2.2 ≤ F) (hF : 0 ≤ F)
    (W : HW ps ws F o hs) {x y : α} {m u : Int} (he : (x, y, m) ∈ ws) (hx : lk hs x = some u) (hy : ∀ v, lk hs y = some v → u + m < v) :
    HW ps ws F o (pt hs y (u + m)) ∧ mass ps ((F * (ps.length : Int)).toNat + 1) (lk (pt hs y (u + m))) < mass ps ((F * (ps.length : Int)).toNat + 1) (lk hs) := by
  have hmw := hw _ he
  simp only at hmw
  have hp : ∀ e ∈ ws, 1 ≤ e.2.2 := fun e he => (hw e he).1
  have u0 : 0 ≤ u := (W.real _ _ hx).nonneg hp
  have hyo : y ≠ o := by
    rintro rfl
    have := hy 0 W.o0
    omega
  have hyp : y ∈ ps := (hm _ he).2
  have look : ∀ z, lk (pt hs y (u + m)) z = if z = y then some (u + m) else lk hs z := fun z => lk_pt hs y z (u + m)
  have htop := W.top x u hx
  -- the number of open places
  have ho : open_ ps (lk (pt hs y (u + m))) + (if (lk hs y).isSome = true then 0 else 1) ≤ open_ ps (lk hs) := by
    cases q : lk hs y with
    | some v =>
      show _ + 0 ≤ _
      exact List.countP_mono_left fun z _ hz => by
        rw [look] at hz
        split at hz
        · cases hz
        · exact hz
    | none =>
      show _ + 1 ≤ _
      exact countP_lt (fun z _ hz => by
        rw [look] at hz
        split at hz
        · cases hz
        · exact hz) hyp (by rw [q]; rfl) (by rw [look, if_pos rfl]; rfl)
  have mono : (open_ ps (lk (pt hs y (u + m))) : Int) ≤ (open_ ps (lk hs) : Int) := by omega
  have bnd : ∀ z v, lk (pt hs y (u + m)) z = some v → v + F * (open_ ps (lk (pt hs y (u + m))) : Int) ≤ F * (ps.length : Int) := by
    intro z v h
    have mm : F * (open_ ps (lk (pt hs y (u + m))) : Int) ≤ F * (open_ ps (lk hs) : Int) := Int.mul_le_mul_of_nonneg_left mono hF
    rw [look] at h
    split at h
    · cases h
      cases q : lk hs y with
      | some w =>
        have := W.top y w q
        have := hy w q
        omega
      | none =>
        rw [q] at ho
        have ho' : open_ ps (lk (pt hs y (u + m))) + 1 ≤ open_ ps (lk hs) := ho
        have m2 : F * ((open_ ps (lk (pt hs y (u + m))) : Int) + 1) ≤ F * (open_ ps (lk hs) : Int) := Int.mul_le_mul_of_nonneg_left (by omega) hF
        rw [Int.mul_add, Int.mul_one] at m2
        omega
    · have := W.top z v h
      omega
  refine ⟨⟨?_, fun z v h => ?_, ?_, bnd⟩, ?_⟩
  · rw [look, if_neg (fun z => hyo z.symm)]
    exact W.o0
  · rw [look] at h
    split at h
    · rename_i e
      cases h
      rw [e]
      exact .snoc (W.real _ _ hx) he
    · exact W.real _ _ h
  · have := pt_len hs y (u + m)
    have := W.len
    omega
  · have hB : u + m ≤ F * (ps.length : Int) := by
      have h1 := bnd y (u + m) (by rw [look, if_pos rfl])
      have h2 : 0 ≤ F * (open_ ps (lk (pt hs y (u + m))) : Int) := Int.mul_nonneg hF (Int.natCast_nonneg _)
      omega
    refine sum_lt (fun z _ => ?_) ⟨y, hyp, ?_⟩
    · rw [look]
      split
      · rename_i e
        subst e
        cases q : lk hs z with
        | none => show (u + m).toNat ≤ _; show _ ≤ (F * (ps.length : Int)).toNat + 1; omega
        | some v =>
          have := hy v q
          show (u + m).toNat ≤ v.toNat
          omega
      · exact Nat.le_refl _
    · rw [look, if_pos rfl]
      cases q : lk hs y with
      | none => show (u + m).toNat < (F * (ps.length : Int)).toNat + 1; omega
      | some v =>
        have := hy v q
        show (u + m).toNat < v.toNat
        omega
/-- where no way tells anything better, these are the heights -/
theorem HW.done {ps : List α} {ws : List (Wy α)} {F : Int} {o : α} {hs : List (α × Int)} (W : HW ps ws F o hs) (hc : ∀ e ∈ ws, ∀ u, lk hs e.1 = some u → ∃ v, lk hs e.2.1 = some v ∧ v ≤ u + e.2.2) : HS ws o (lk hs) :=
  ⟨W.o0, W.real, fun x y m v he hx => hc _ he v hx⟩
end
end FM
/-! FTop -/
/-! The text by places; what the top leaves, by names. Printed by gen_top.py. -/
namespace FP
open PySem PySem.Spec PyProof.Rows L2
def top (i : Nat) : Stmt := PySem.Challenge.pw_fleetpath_k25_whole_links_go_on.main.body.getD i (.Pass ⟨0, 0, 0, 0⟩)
abbrev st_gap : Stmt := top 1
abbrev st_linked : Stmt := top 2
abbrev st_links : Stmt := top 3
abbrev st_cname : Stmt := top 17
abbrev st_cnumber : Stmt := top 18
abbrev st_croads : Stmt := top 22
abbrev st_hfrom : Stmt := top 23
abbrev st_pahead : Stmt := top 24
abbrev st_rinit : Stmt := inClass (top 25) 0
abbrev st_rheights : Stmt := inClass (top 25) 2
abbrev st_rlength : Stmt := inClass (top 25) 3
abbrev st_rway : Stmt := inClass (top 25) 4
abbrev st_ctrip : Stmt := top 30
abbrev st_tinit : Stmt := inClass (top 31) 0
abbrev st_tnames : Stmt := inClass (top 31) 1
abbrev st_ttrip : Stmt := inClass (top 31) 2
abbrev st_lcell : Stmt := top 33
abbrev st_lmix : Stmt := top 34
abbrev st_lnames : Stmt := top 35
abbrev st_lways : Stmt := top 36
abbrev st_llens : Stmt := top 37
abbrev st_ltrip : Stmt := top 38
abbrev st_ltrips : Stmt := top 39
abbrev st_lwhole : Stmt := top 40
abbrev st_ldriven : Stmt := top 41
abbrev st_lpaper : Stmt := top 42
abbrev st_lbehind : Stmt := top 43
abbrev st_llaw : Stmt := top 44
def df_gap : He.DefD := ⟨("gap", none), "gap", "gap", defArgs st_gap, defBody st_gap, defScope st_gap, [], []⟩
def df_linked : He.DefD := ⟨("linked", none), "linked", "linked", defArgs st_linked, defBody st_linked, defScope st_linked, [], []⟩
def df_links : He.DefD := ⟨("links", none), "links", "links", defArgs st_links, defBody st_links, defScope st_links, [], []⟩
def df_cname : He.DefD := ⟨("checked_name", none), "checked_name", "checked_name", defArgs st_cname, defBody st_cname, defScope st_cname, [], []⟩
def df_cnumber : He.DefD := ⟨("checked_number", none), "checked_number", "checked_number", defArgs st_cnumber, defBody st_cnumber, defScope st_cnumber, [], []⟩
def df_croads : He.DefD := ⟨("check_roads", none), "check_roads", "check_roads", defArgs st_croads, defBody st_croads, defScope st_croads, [], []⟩
def df_hfrom : He.DefD := ⟨("heights_from", none), "heights_from", "heights_from", defArgs st_hfrom, defBody st_hfrom, defScope st_hfrom, [], []⟩
def df_pahead : He.DefD := ⟨("place_ahead", none), "place_ahead", "place_ahead", defArgs st_pahead, defBody st_pahead, defScope st_pahead, [], []⟩
def df_rinit : He.DefD := ⟨("Roads", some "__init__"), "__init__", "Roads.__init__", defArgs st_rinit, defBody st_rinit, defScope st_rinit, [], []⟩
def df_rheights : He.DefD := ⟨("Roads", some "heights"), "heights", "Roads.heights", defArgs st_rheights, defBody st_rheights, defScope st_rheights, [], []⟩
def df_rlength : He.DefD := ⟨("Roads", some "length"), "length", "Roads.length", defArgs st_rlength, defBody st_rlength, defScope st_rlength, [], []⟩
def df_rway : He.DefD := ⟨("Roads", some "way"), "way", "Roads.way", defArgs st_rway, defBody st_rway, defScope st_rway, [], []⟩
def df_ctrip : He.DefD := ⟨("check_trip", none), "check_trip", "check_trip", defArgs st_ctrip, defBody st_ctrip, defScope st_ctrip, [], []⟩
def df_tinit : He.DefD := ⟨("Table", some "__init__"), "__init__", "Table.__init__", defArgs st_tinit, defBody st_tinit, defScope st_tinit, [], []⟩
def df_tnames : He.DefD := ⟨("Table", some "names"), "names", "Table.names", defArgs st_tnames, defBody st_tnames, defScope st_tnames, [], []⟩
def df_ttrip : He.DefD := ⟨("Table", some "trip"), "trip", "Table.trip", defArgs st_ttrip, defBody st_ttrip, defScope st_ttrip, [], []⟩
def df_lcell : He.DefD := ⟨("_law_cell_at", none), "_law_cell_at", "_law_cell_at", defArgs st_lcell, defBody st_lcell, defScope st_lcell, [], []⟩
def df_lmix : He.DefD := ⟨("_law_mix", none), "_law_mix", "_law_mix", defArgs st_lmix, defBody st_lmix, defScope st_lmix, [], []⟩
def df_lnames : He.DefD := ⟨("_law_names", none), "_law_names", "_law_names", defArgs st_lnames, defBody st_lnames, defScope st_lnames, [], []⟩
def df_lways : He.DefD := ⟨("_law_ways", none), "_law_ways", "_law_ways", defArgs st_lways, defBody st_lways, defScope st_lways, [], []⟩
def df_llens : He.DefD := ⟨("_law_lengths", none), "_law_lengths", "_law_lengths", defArgs st_llens, defBody st_llens, defScope st_llens, [], []⟩
def df_ltrip : He.DefD := ⟨("_law_trip", none), "_law_trip", "_law_trip", defArgs st_ltrip, defBody st_ltrip, defScope st_ltrip, [], []⟩
def df_ltrips : He.DefD := ⟨("_law_trips", none), "_law_trips", "_law_trips", defArgs st_ltrips, defBody st_ltrips, defScope st_ltrips, [], []⟩
def df_lwhole : He.DefD := ⟨("_law_whole", none), "_law_whole", "_law_whole", defArgs st_lwhole, defBody st_lwhole, defScope st_lwhole, [], []⟩
def df_ldriven : He.DefD := ⟨("_law_driven", none), "_law_driven", "_law_driven", defArgs st_ldriven, defBody st_ldriven, defScope st_ldriven, [], []⟩
def df_lpaper : He.DefD := ⟨("_law_paper", none), "_law_paper", "_law_paper", defArgs st_lpaper, defBody st_lpaper, defScope st_lpaper, [], []⟩
def df_lbehind : He.DefD := ⟨("_law_behind", none), "_law_behind", "_law_behind", defArgs st_lbehind, defBody st_lbehind, defScope st_lbehind, [], []⟩
def df_llaw : He.DefD := ⟨("law", none), "law", "law", defArgs st_llaw, defBody st_llaw, defScope st_llaw, [], []⟩
def fn : List He.DefD := [df_gap, df_linked, df_links, df_cname, df_cnumber, df_croads, df_hfrom, df_pahead, df_rinit, df_rheights, df_rlength, df_rway, df_ctrip, df_tinit, df_tnames, df_ttrip, df_lcell, df_lmix, df_lnames, df_lways, df_llens, df_ltrip, df_ltrips, df_lwhole, df_ldriven, df_lpaper, df_lbehind, df_llaw]
def fa0 : List He.Fa := [.glo "gap", .glo "linked", .glo "links", .glo "checked_name", .glo "checked_number", .glo "check_roads", .glo "heights_from", .glo "place_ahead", .glo "check_trip", .glo "_law_cell_at", .glo "_law_mix", .glo "_law_names", .glo "_law_ways", .glo "_law_lengths", .glo "_law_trip", .glo "_law_trips", .glo "_law_whole", .glo "_law_driven", .glo "_law_paper", .glo "_law_behind"]
def fa1 : List He.Fa := [.glo "law", .glo "Roads", .glo "Table", .free "len", .free "list", .free "dict", .free "set", .free "sorted", .free "reversed", .free "range", .free "min", .free "max", .free "isinstance", .free "int", .free "bool", .free "all", .int "LIMIT" 1000000000, .int "LONGEST" 12, .int "MOST_PLACES" 12, .int "MOST_WAYS" 60]
def fa2 : List He.Fa := [.int "MOST_TRIPS" 40, .str "SIGNS" "abcdefghijklmnopqrstuvwxyz0123456789", .cls "Roads", .noat "Roads" "towns", .noat "Roads" "lanes", .noat "Roads" "reached", .meth "Roads" "heights", .meth "Roads" "length", .meth "Roads" "way", .mkr "Roads", .cls "Table", .noat "Table" "roads", .noat "Table" "board", .meth "Table" "names", .meth "Table" "trip", .mkr "Table"]
def fa : List He.Fa := fa0 ++ fa1 ++ fa2
def tf : List He.Defn := [("Table", some "names")]
def ex : PySem.W.Frag → Bool := fun _ => true
/-- what the top has left, by names -/
def Tx (w : World) (K : PySem.W.Frag) (mg : Str → Option Value) : Prop := ∃ h : Heap, K.In h ∧ h.Ns mainGlobals mg ∧ He.SaysX fa fn [] tf ex w h K
section
variable {w : World} {K : PySem.W.Frag} {mg : Str → Option Value}
theorem Tx.g_gap (T : Tx w K mg) : mg "gap" = some (.ref (He.ga K "gap")) := by
  obtain ⟨h, X, G, c⟩ := T
  exact He.glo_ok X G (c.t.d.fact 0 (f := .glo "gap") rfl)
theorem Tx.g_linked (T : Tx w K mg) : mg "linked" = some (.ref (He.ga K "linked")) := by
  obtain ⟨h, X, G, c⟩ := T
  exact He.glo_ok X G (c.t.d.fact 1 (f := .glo "linked") rfl)
theorem Tx.g_links (T : Tx w K mg) : mg "links" = some (.ref (He.ga K "links")) := by
  obtain ⟨h, X, G, c⟩ := T
  exact He.glo_ok X G (c.t.d.fact 2 (f := .glo "links") rfl)
theorem Tx.g_checked_name (T : Tx w K mg) : mg "checked_name" = some (.ref (He.ga K "checked_name")) := by
  obtain ⟨h, X, G, c⟩ := T
  exact He.glo_ok X G (c.t.d.fact 3 (f := .glo "checked_name") rfl)
theorem Tx.g_checked_number (T : Tx w K mg) : mg "checked_number" = some (.ref (He.ga K "checked_number")) := by
  obtain ⟨h, X, G, c⟩ := T
  exact He.glo_ok X G (c.t.d.fact 4 (f := .glo "checked_number") rfl)
theorem Tx.g_check_roads (T : Tx w K mg) : mg "check_roads" = some (.ref (He.ga K "check_roads")) := by
  obtain ⟨h, X, G, c⟩ := T
  exact He.glo_ok X G (c.t.d.fact 5 (f := .glo "check_roads") rfl)
theorem Tx.g_heights_from (T : Tx w K mg) : mg "heights_from" = some (.ref (He.ga K "heights_from")) := by
  obtain ⟨h, X, G, c⟩ := T
  exact He.glo_ok X G (c.t.d.fact 6 (f := .glo "heights_from") rfl)
theorem Tx.g_place_ahead (T : Tx w K mg) : mg "place_ahead" = some (.ref (He.ga K "place_ahead")) := by
  obtain ⟨h, X, G, c⟩ := T
  exact He.glo_ok X G (c.t.d.fact 7 (f := .glo "place_ahead") rfl)
theorem Tx.g_check_trip (T : Tx w K mg) : mg "check_trip" = some (.ref (He.ga K "check_trip")) := by
  obtain ⟨h, X, G, c⟩ := T
  exact He.glo_ok X G (c.t.d.fact 8 (f := .glo "check_trip") rfl)
theorem Tx.g__law_cell_at (T : Tx w K mg) : mg "_law_cell_at" = some (.ref (He.ga K "_law_cell_at")) := by
  obtain ⟨h, X, G, c⟩ := T
  exact He.glo_ok X G (c.t.d.fact 9 (f := .glo "_law_cell_at") rfl)
theorem Tx.g__law_mix (T : Tx w K mg) : mg "_law_mix" = some (.ref (He.ga K "_law_mix")) := by
  obtain ⟨h, X, G, c⟩ := T
  exact He.glo_ok X G (c.t.d.fact 10 (f := .glo "_law_mix") rfl)
theorem Tx.g__law_names (T : Tx w K mg) : mg "_law_names" = some (.ref (He.ga K "_law_names")) := by
  obtain ⟨h, X, G, c⟩ := T
  exact He.glo_ok X G (c.t.d.fact 11 (f := .glo "_law_names") rfl)
theorem Tx.g__law_ways (T : Tx w K mg) : mg "_law_ways" = some (.ref (He.ga K "_law_ways")) := by
  obtain ⟨h, X, G, c⟩ := T
  exact He.glo_ok X G (c.t.d.fact 12 (f := .glo "_law_ways") rfl)
theorem Tx.g__law_lengths (T : Tx w K mg) : mg "_law_lengths" = some (.ref (He.ga K "_law_lengths")) := by
  obtain ⟨h, X, G, c⟩ := T
  exact He.glo_ok X G (c.t.d.fact 13 (f := .glo "_law_lengths") rfl)
theorem Tx.g__law_trip (T : Tx w K mg) : mg "_law_trip" = some (.ref (He.ga K "_law_trip")) := by
  obtain ⟨h, X, G, c⟩ := T
  exact He.glo_ok X G (c.t.d.fact 14 (f := .glo "_law_trip") rfl)
theorem Tx.g__law_trips (T : Tx w K mg) : mg "_law_trips" = some (.ref (He.ga K "_law_trips")) := by
  obtain ⟨h, X, G, c⟩ := T
  exact He.glo_ok X G (c.t.d.fact 15 (f := .glo "_law_trips") rfl)
theorem Tx.g__law_whole (T : Tx w K mg) : mg "_law_whole" = some (.ref (He.ga K "_law_whole")) := by
  obtain ⟨h, X, G, c⟩ := T
  exact He.glo_ok X G (c.t.d.fact 16 (f := .glo "_law_whole") rfl)
theorem Tx.g__law_driven (T : Tx w K mg) : mg "_law_driven" = some (.ref (He.ga K "_law_driven")) := by
  obtain ⟨h, X, G, c⟩ := T
  exact He.glo_ok X G (c.t.d.fact 17 (f := .glo "_law_driven") rfl)
theorem Tx.g__law_paper (T : Tx w K mg) : mg "_law_paper" = some (.ref (He.ga K "_law_paper")) := by
  obtain ⟨h, X, G, c⟩ := T
  exact He.glo_ok X G (c.t.d.fact 18 (f := .glo "_law_paper") rfl)
theorem Tx.g__law_behind (T : Tx w K mg) : mg "_law_behind" = some (.ref (He.ga K "_law_behind")) := by
  obtain ⟨h, X, G, c⟩ := T
  exact He.glo_ok X G (c.t.d.fact 19 (f := .glo "_law_behind") rfl)
theorem Tx.g_law (T : Tx w K mg) : mg "law" = some (.ref (He.ga K "law")) := by
  obtain ⟨h, X, G, c⟩ := T
  exact He.glo_ok X G (c.t.d.fact 20 (f := .glo "law") rfl)
theorem Tx.g_Roads (T : Tx w K mg) : mg "Roads" = some (.ref (He.ga K "Roads")) := by
  obtain ⟨h, X, G, c⟩ := T
  exact He.glo_ok X G (c.t.d.fact 21 (f := .glo "Roads") rfl)
theorem Tx.g_Table (T : Tx w K mg) : mg "Table" = some (.ref (He.ga K "Table")) := by
  obtain ⟨h, X, G, c⟩ := T
  exact He.glo_ok X G (c.t.d.fact 22 (f := .glo "Table") rfl)
theorem Tx.n_len (T : Tx w K mg) : mg "len" = none := by
  obtain ⟨h, X, G, c⟩ := T
  exact He.free_ok X G (c.t.d.fact 23 (f := .free "len") rfl)
theorem Tx.n_list (T : Tx w K mg) : mg "list" = none := by
  obtain ⟨h, X, G, c⟩ := T
  exact He.free_ok X G (c.t.d.fact 24 (f := .free "list") rfl)
theorem Tx.n_dict (T : Tx w K mg) : mg "dict" = none := by
  obtain ⟨h, X, G, c⟩ := T
  exact He.free_ok X G (c.t.d.fact 25 (f := .free "dict") rfl)
theorem Tx.n_set (T : Tx w K mg) : mg "set" = none := by
  obtain ⟨h, X, G, c⟩ := T
  exact He.free_ok X G (c.t.d.fact 26 (f := .free "set") rfl)
theorem Tx.n_sorted (T : Tx w K mg) : mg "sorted" = none := by
  obtain ⟨h, X, G, c⟩ := T
  exact He.free_ok X G (c.t.d.fact 27 (f := .free "sorted") rfl)
theorem Tx.n_reversed (T : Tx w K mg) : mg "reversed" = none := by
  obtain ⟨h, X, G, c⟩ := T
  exact He.free_ok X G (c.t.d.fact 28 (f := .free "reversed") rfl)
theorem Tx.n_range (T : Tx w K mg) : mg "range" = none := by
  obtain ⟨h, X, G, c⟩ := T
  exact He.free_ok X G (c.t.d.fact 29 (f := .free "range") rfl)
theorem Tx.n_min (T : Tx w K mg) : mg "min" = none := by
  obtain ⟨h, X, G, c⟩ := T
  exact He.free_ok X G (c.t.d.fact 30 (f := .free "min") rfl)
theorem Tx.n_max (T : Tx w K mg) : mg "max" = none := by
  obtain ⟨h, X, G, c⟩ := T
  exact He.free_ok X G (c.t.d.fact 31 (f := .free "max") rfl)
theorem Tx.n_isinstance (T : Tx w K mg) : mg "isinstance" = none := by
  obtain ⟨h, X, G, c⟩ := T
  exact He.free_ok X G (c.t.d.fact 32 (f := .free "isinstance") rfl)
theorem Tx.n_int (T : Tx w K mg) : mg "int" = none := by
  obtain ⟨h, X, G, c⟩ := T
  exact He.free_ok X G (c.t.d.fact 33 (f := .free "int") rfl)
theorem Tx.n_bool (T : Tx w K mg) : mg "bool" = none := by
  obtain ⟨h, X, G, c⟩ := T
  exact He.free_ok X G (c.t.d.fact 34 (f := .free "bool") rfl)
theorem Tx.n_all (T : Tx w K mg) : mg "all" = none := by
  obtain ⟨h, X, G, c⟩ := T
  exact He.free_ok X G (c.t.d.fact 35 (f := .free "all") rfl)
theorem Tx.i_LIMIT (T : Tx w K mg) : ∃ t, mg "LIMIT" = some (.int 1000000000 t) := by
  obtain ⟨h, X, G, c⟩ := T
  exact He.int_ok X G (c.t.d.fact 36 (f := .int "LIMIT" 1000000000) rfl)
theorem Tx.i_LONGEST (T : Tx w K mg) : ∃ t, mg "LONGEST" = some (.int 12 t) := by
  obtain ⟨h, X, G, c⟩ := T
  exact He.int_ok X G (c.t.d.fact 37 (f := .int "LONGEST" 12) rfl)
theorem Tx.i_MOST_PLACES (T : Tx w K mg) : ∃ t, mg "MOST_PLACES" = some (.int 12 t) := by
  obtain ⟨h, X, G, c⟩ := T
  exact He.int_ok X G (c.t.d.fact 38 (f := .int "MOST_PLACES" 12) rfl)
theorem Tx.i_MOST_WAYS (T : Tx w K mg) : ∃ t, mg "MOST_WAYS" = some (.int 60 t) := by
  obtain ⟨h, X, G, c⟩ := T
  exact He.int_ok X G (c.t.d.fact 39 (f := .int "MOST_WAYS" 60) rfl)
theorem Tx.i_MOST_TRIPS (T : Tx w K mg) : ∃ t, mg "MOST_TRIPS" = some (.int 40 t) := by
  obtain ⟨h, X, G, c⟩ := T
  exact He.int_ok X G (c.t.d.fact 40 (f := .int "MOST_TRIPS" 40) rfl)
theorem Tx.s_SIGNS (T : Tx w K mg) : ∃ t, mg "SIGNS" = some (.str "abcdefghijklmnopqrstuvwxyz0123456789" t) := by
  obtain ⟨h, X, G, c⟩ := T
  exact He.str_ok X G (c.t.d.fact 41 (f := .str "SIGNS" "abcdefghijklmnopqrstuvwxyz0123456789") rfl)
theorem Tx.c_Roads (T : Tx w K mg) : Cls K (He.ga K "Roads") := by
  obtain ⟨h, X, G, c⟩ := T
  exact He.cls_ok (c.t.d.fact 42 (f := .cls "Roads") rfl)
theorem Tx.a_Roads_towns (T : Tx w K mg) : NoAttr K (He.ga K "Roads") "towns" := by
  obtain ⟨h, X, G, c⟩ := T
  exact He.noat_ok (c.t.d.fact 43 (f := .noat "Roads" "towns") rfl)
theorem Tx.a_Roads_lanes (T : Tx w K mg) : NoAttr K (He.ga K "Roads") "lanes" := by
  obtain ⟨h, X, G, c⟩ := T
  exact He.noat_ok (c.t.d.fact 44 (f := .noat "Roads" "lanes") rfl)
theorem Tx.a_Roads_reached (T : Tx w K mg) : NoAttr K (He.ga K "Roads") "reached" := by
  obtain ⟨h, X, G, c⟩ := T
  exact He.noat_ok (c.t.d.fact 45 (f := .noat "Roads" "reached") rfl)
theorem Tx.m_Roads_heights (T : Tx w K mg) : Meth K (He.ga K "Roads") "heights" (He.ma K (He.ga K "Roads") "heights") := by
  obtain ⟨h, X, G, c⟩ := T
  exact He.meth_ok (c.t.d.fact 46 (f := .meth "Roads" "heights") rfl)
theorem Tx.m_Roads_length (T : Tx w K mg) : Meth K (He.ga K "Roads") "length" (He.ma K (He.ga K "Roads") "length") := by
  obtain ⟨h, X, G, c⟩ := T
  exact He.meth_ok (c.t.d.fact 47 (f := .meth "Roads" "length") rfl)
theorem Tx.m_Roads_way (T : Tx w K mg) : Meth K (He.ga K "Roads") "way" (He.ma K (He.ga K "Roads") "way") := by
  obtain ⟨h, X, G, c⟩ := T
  exact He.meth_ok (c.t.d.fact 48 (f := .meth "Roads" "way") rfl)
theorem Tx.k_Roads (T : Tx w K mg) : Mk K (He.ga K "Roads") (He.ma K (He.ga K "Roads") "__init__") := by
  obtain ⟨h, X, G, c⟩ := T
  exact He.mkr_ok (c.t.d.fact 49 (f := .mkr "Roads") rfl)
theorem Tx.c_Table (T : Tx w K mg) : Cls K (He.ga K "Table") := by
  obtain ⟨h, X, G, c⟩ := T
  exact He.cls_ok (c.t.d.fact 50 (f := .cls "Table") rfl)
theorem Tx.a_Table_roads (T : Tx w K mg) : NoAttr K (He.ga K "Table") "roads" := by
  obtain ⟨h, X, G, c⟩ := T
  exact He.noat_ok (c.t.d.fact 51 (f := .noat "Table" "roads") rfl)
theorem Tx.a_Table_board (T : Tx w K mg) : NoAttr K (He.ga K "Table") "board" := by
  obtain ⟨h, X, G, c⟩ := T
  exact He.noat_ok (c.t.d.fact 52 (f := .noat "Table" "board") rfl)
theorem Tx.m_Table_names (T : Tx w K mg) : Meth K (He.ga K "Table") "names" (He.ma K (He.ga K "Table") "names") := by
  obtain ⟨h, X, G, c⟩ := T
  exact He.meth_ok (c.t.d.fact 53 (f := .meth "Table" "names") rfl)
theorem Tx.m_Table_trip (T : Tx w K mg) : Meth K (He.ga K "Table") "trip" (He.ma K (He.ga K "Table") "trip") := by
  obtain ⟨h, X, G, c⟩ := T
  exact He.meth_ok (c.t.d.fact 54 (f := .meth "Table" "trip") rfl)
theorem Tx.k_Table (T : Tx w K mg) : Mk K (He.ga K "Table") (He.ma K (He.ga K "Table") "__init__") := by
  obtain ⟨h, X, G, c⟩ := T
  exact He.mkr_ok (c.t.d.fact 55 (f := .mkr "Table") rfl)
theorem Tx.d_gap (T : Tx w K mg) : ∃ fd, FunD K "gap" "gap" (defArgs st_gap) (defBody st_gap) (defScope st_gap) [] [] (He.ga K "gap") fd := by
  obtain ⟨h, X, G, c⟩ := T
  exact c.t.d.def_ 0 (d := df_gap) rfl
theorem Tx.d_linked (T : Tx w K mg) : ∃ fd, FunD K "linked" "linked" (defArgs st_linked) (defBody st_linked) (defScope st_linked) [] [] (He.ga K "linked") fd := by
  obtain ⟨h, X, G, c⟩ := T
  exact c.t.d.def_ 1 (d := df_linked) rfl
theorem Tx.d_links (T : Tx w K mg) : ∃ fd, FunD K "links" "links" (defArgs st_links) (defBody st_links) (defScope st_links) [] [] (He.ga K "links") fd := by
  obtain ⟨h, X, G, c⟩ := T
  exact c.t.d.def_ 2 (d := df_links) rfl
theorem Tx.d_cname (T : Tx w K mg) : ∃ fd, FunD K "checked_name" "checked_name" (defArgs st_cname) (defBody st_cname) (defScope st_cname) [] [] (He.ga K "checked_name") fd := by
  obtain ⟨h, X, G, c⟩ := T
  exact c.t.d.def_ 3 (d := df_cname) rfl
theorem Tx.d_cnumber (T : Tx w K mg) : ∃ fd, FunD K "checked_number" "checked_number" (defArgs st_cnumber) (defBody st_cnumber) (defScope st_cnumber) [] [] (He.ga K "checked_number") fd := by
  obtain ⟨h, X, G, c⟩ := T
  exact c.t.d.def_ 4 (d := df_cnumber) rfl
theorem Tx.d_croads (T : Tx w K mg) : ∃ fd, FunD K "check_roads" "check_roads" (defArgs st_croads) (defBody st_croads) (defScope st_croads) [] [] (He.ga K "check_roads") fd := by
  obtain ⟨h, X, G, c⟩ := T
  exact c.t.d.def_ 5 (d := df_croads) rfl
theorem Tx.d_hfrom (T : Tx w K mg) : ∃ fd, FunD K "heights_from" "heights_from" (defArgs st_hfrom) (defBody st_hfrom) (defScope st_hfrom) [] [] (He.ga K "heights_from") fd := by
  obtain ⟨h, X, G, c⟩ := T
  exact c.t.d.def_ 6 (d := df_hfrom) rfl
theorem Tx.d_pahead (T : Tx w K mg) : ∃ fd, FunD K "place_ahead" "place_ahead" (defArgs st_pahead) (defBody st_pahead) (defScope st_pahead) [] [] (He.ga K "place_ahead") fd := by
  obtain ⟨h, X, G, c⟩ := T
  exact c.t.d.def_ 7 (d := df_pahead) rfl
theorem Tx.d_rinit (T : Tx w K mg) : ∃ fd, FunD K "__init__" "Roads.__init__" (defArgs st_rinit) (defBody st_rinit) (defScope st_rinit) [] [] (He.ma K (He.ga K "Roads") "__init__") fd := by
  obtain ⟨h, X, G, c⟩ := T
  exact c.t.d.def_ 8 (d := df_rinit) rfl
theorem Tx.d_rheights (T : Tx w K mg) : ∃ fd, FunD K "heights" "Roads.heights" (defArgs st_rheights) (defBody st_rheights) (defScope st_rheights) [] [] (He.ma K (He.ga K "Roads") "heights") fd := by
  obtain ⟨h, X, G, c⟩ := T
  exact c.t.d.def_ 9 (d := df_rheights) rfl
theorem Tx.d_rlength (T : Tx w K mg) : ∃ fd, FunD K "length" "Roads.length" (defArgs st_rlength) (defBody st_rlength) (defScope st_rlength) [] [] (He.ma K (He.ga K "Roads") "length") fd := by
  obtain ⟨h, X, G, c⟩ := T
  exact c.t.d.def_ 10 (d := df_rlength) rfl
theorem Tx.d_rway (T : Tx w K mg) : ∃ fd, FunD K "way" "Roads.way" (defArgs st_rway) (defBody st_rway) (defScope st_rway) [] [] (He.ma K (He.ga K "Roads") "way") fd := by
  obtain ⟨h, X, G, c⟩ := T
  exact c.t.d.def_ 11 (d := df_rway) rfl
theorem Tx.d_ctrip (T : Tx w K mg) : ∃ fd, FunD K "check_trip" "check_trip" (defArgs st_ctrip) (defBody st_ctrip) (defScope st_ctrip) [] [] (He.ga K "check_trip") fd := by
  obtain ⟨h, X, G, c⟩ := T
  exact c.t.d.def_ 12 (d := df_ctrip) rfl
theorem Tx.d_tinit (T : Tx w K mg) : ∃ fd, FunD K "__init__" "Table.__init__" (defArgs st_tinit) (defBody st_tinit) (defScope st_tinit) [] [] (He.ma K (He.ga K "Table") "__init__") fd := by
  obtain ⟨h, X, G, c⟩ := T
  exact c.t.d.def_ 13 (d := df_tinit) rfl
theorem Tx.d_tnames (T : Tx w K mg) : ∃ fd, FunD K "names" "Table.names" (defArgs st_tnames) (defBody st_tnames) (defScope st_tnames) [] [] (He.ma K (He.ga K "Table") "names") fd := by
  obtain ⟨h, X, G, c⟩ := T
  exact c.t.d.def_ 14 (d := df_tnames) rfl
theorem Tx.d_ttrip (T : Tx w K mg) : ∃ fd, FunD K "trip" "Table.trip" (defArgs st_ttrip) (defBody st_ttrip) (defScope st_ttrip) [] [] (He.ma K (He.ga K "Table") "trip") fd := by
  obtain ⟨h, X, G, c⟩ := T
  exact c.t.d.def_ 15 (d := df_ttrip) rfl
theorem Tx.d_lcell (T : Tx w K mg) : ∃ fd, FunD K "_law_cell_at" "_law_cell_at" (defArgs st_lcell) (defBody st_lcell) (defScope st_lcell) [] [] (He.ga K "_law_cell_at") fd := by
  obtain ⟨h, X, G, c⟩ := T
  exact c.t.d.def_ 16 (d := df_lcell) rfl
theorem Tx.d_lmix (T : Tx w K mg) : ∃ fd, FunD K "_law_mix" "_law_mix" (defArgs st_lmix) (defBody st_lmix) (defScope st_lmix) [] [] (He.ga K "_law_mix") fd := by
  obtain ⟨h, X, G, c⟩ := T
  exact c.t.d.def_ 17 (d := df_lmix) rfl
theorem Tx.d_lnames (T : Tx w K mg) : ∃ fd, FunD K "_law_names" "_law_names" (defArgs st_lnames) (defBody st_lnames) (defScope st_lnames) [] [] (He.ga K "_law_names") fd := by
  obtain ⟨h, X, G, c⟩ := T
  exact c.t.d.def_ 18 (d := df_lnames) rfl
theorem Tx.d_lways (T : Tx w K mg) : ∃ fd, FunD K "_law_ways" "_law_ways" (defArgs st_lways) (defBody st_lways) (defScope st_lways) [] [] (He.ga K "_law_ways") fd := by
  obtain ⟨h, X, G, c⟩ := T
  exact c.t.d.def_ 19 (d := df_lways) rfl
theorem Tx.d_llens (T : Tx w K mg) : ∃ fd, FunD K "_law_lengths" "_law_lengths" (defArgs st_llens) (defBody st_llens) (defScope st_llens) [] [] (He.ga K "_law_lengths") fd := by
  obtain ⟨h, X, G, c⟩ := T
  exact c.t.d.def_ 20 (d := df_llens) rfl
theorem Tx.d_ltrip (T : Tx w K mg) : ∃ fd, FunD K "_law_trip" "_law_trip" (defArgs st_ltrip) (defBody st_ltrip) (defScope st_ltrip) [] [] (He.ga K "_law_trip") fd := by
  obtain ⟨h, X, G, c⟩ := T
  exact c.t.d.def_ 21 (d := df_ltrip) rfl
theorem Tx.d_ltrips (T : Tx w K mg) : ∃ fd, FunD K "_law_trips" "_law_trips" (defArgs st_ltrips) (defBody st_ltrips) (defScope st_ltrips) [] [] (He.ga K "_law_trips") fd := by
  obtain ⟨h, X, G, c⟩ := T
  exact c.t.d.def_ 22 (d := df_ltrips) rfl
theorem Tx.d_lwhole (T : Tx w K mg) : ∃ fd, FunD K "_law_whole" "_law_whole" (defArgs st_lwhole) (defBody st_lwhole) (defScope st_lwhole) [] [] (He.ga K "_law_whole") fd := by
  obtain ⟨h, X, G, c⟩ := T
  exact c.t.d.def_ 23 (d := df_lwhole) rfl
theorem Tx.d_ldriven (T : Tx w K mg) : ∃ fd, FunD K "_law_driven" "_law_driven" (defArgs st_ldriven) (defBody st_ldriven) (defScope st_ldriven) [] [] (He.ga K "_law_driven") fd := by
  obtain ⟨h, X, G, c⟩ := T
  exact c.t.d.def_ 24 (d := df_ldriven) rfl
theorem Tx.d_lpaper (T : Tx w K mg) : ∃ fd, FunD K "_law_paper" "_law_paper" (defArgs st_lpaper) (defBody st_lpaper) (defScope st_lpaper) [] [] (He.ga K "_law_paper") fd := by
  obtain ⟨h, X, G, c⟩ := T
  exact c.t.d.def_ 25 (d := df_lpaper) rfl
theorem Tx.d_lbehind (T : Tx w K mg) : ∃ fd, FunD K "_law_behind" "_law_behind" (defArgs st_lbehind) (defBody st_lbehind) (defScope st_lbehind) [] [] (He.ga K "_law_behind") fd := by
  obtain ⟨h, X, G, c⟩ := T
  exact c.t.d.def_ 26 (d := df_lbehind) rfl
theorem Tx.d_llaw (T : Tx w K mg) : ∃ fd, FunD K "law" "law" (defArgs st_llaw) (defBody st_llaw) (defScope st_llaw) [] [] (He.ga K "law") fd := by
  obtain ⟨h, X, G, c⟩ := T
  exact c.t.d.def_ 27 (d := df_llaw) rfl
end
/-- a def keeps its promise, and may be called -/
def Ok (P : Program) (w : World) (K : PySem.W.Frag) (mg : Str → Option Value) (base : Heap) (k : Nat) (f : Addr) (ps : List Str) (sp : Sp) : Prop :=
  ∃ fd, FnOk P w K mg base CX0 k f fd ps sp ∧ PySem.W.keepIn K (.ref f) = true ∧ Binds K fd ps []
theorem ok_of {P : Program} {w : World} {K : PySem.W.Frag} {mg : Str → Option Value} {base : Heap} {x qual : Str} {st : Stmt} {f : Addr} {N ps : List Str} {k : Nat} {sp : Sp}
    (D : ∃ fd, FunD K x qual (defArgs st) (defBody st) (defScope st) [] [] f fd) (S : FnScope N ps (defScope st)) (len : ∀ vs H Q E, sp vs H Q E → vs.length = ps.length)
    (hb : ∀ (kV doc pm : Value) (an : Option Addr) (cdv ct : Value) (us : List Value), us.length = ps.length → bindArgs (PySem.W.fnOf x qual (defArgs st) (defBody st) (defScope st) .none kV doc pm an cdv ct) ⟨us, []⟩ = pure (ps.zip us))
    (hbody : ∀ (cdv : Value) (A : Around) (outer : List Env) (s : Shared) (H : Hp) (vs : List V) (Q : VK) (E : XK), Room k (A.deeper (envOfC qual (defScope st) s.heap.objs.size f cdv)) → sp vs H Q E →
      ∃ t, PSs (cxOf CX0 P w K mg base N qual (defScope st) f cdv A outer s H E).nox (defBody st) t ∧ t { nx := fun _ H' => Q .non H', rt := Q } (start N vs) H) : Ok P w K mg base (k + 1) f ps sp := by
  obtain ⟨fd, F⟩ := D
  refine ⟨fd, F.ok S len fun cdv A outer s H vs Q E hr hsp => ?_, F.kp, F.bindsN hb⟩
  obtain ⟨t, ht, q⟩ := hbody cdv A outer s H vs Q E hr hsp
  exact ⟨t, PSs.nox ht, q⟩
end FP
/-! FLam -/
/-! A rule for sorted(self.d, key=lambda x: (self.d[x][3], self.d[x][4], x)), self a cell of the method. -/
namespace FL
open PySem PySem.Spec PySem.Calls PyProof.Rows L2
/-- the evaluation of e changes tokens alone and gives v -/
def TkA (P : Program) (w : World) (A : Around) (t : Sem Value) (s : Shared) (v : V) : Prop :=
  ∀ (tk : Nat) (E : Value → Shared → Prop) (Q : Value → Shared → Prop), (∀ u tk', RelV v u → Q u { s with toks := tk' }) → wpAny (model P w) A t Q E { s with toks := tk }
section
variable {P : Program} {w : World} {A : Around} {s : Shared} {env : Env} {K : PySem.W.Frag} {H : Hp}
theorem tka_local {x : Str} {pos : Pos} {v : V} {u : Value} {m : Str → Option Value} (hk : env.scope.kind = .function) (hx : env.kindOf x = some .local) (hn : s.heap.Ns env.locals m) (hm : m x = some u) (r : RelV v u) (hd : (x == ("__debug__" : Str)) = false := by decide) :
    TkA P w A (eval (.Name x pos) env) s v := fun tk E Q q => wpAny_Name (wpAny_loadName_local hk hx (s := { s with toks := tk }) hn hm (q u tk r)) hd
theorem tka_free {x : Str} {pos : Pos} {v : V} {u : Value} {c : Addr} (hk : env.scope.kind = .function) (hx : env.kindOf x = some .free) (hc : env.cells.lookup x = some c) (hcell : s.heap.IsCell c (some u)) (r : RelV v u) (hd : (x == ("__debug__" : Str)) = false := by decide)
    (hcd : (x == ("__classdict__" : Str)) = false := by decide) : TkA P w A (eval (.Name x pos) env) s v := fun tk E Q q => wpAny_Name (wpAny_loadName_free hk hx hc (s := { s with toks := tk }) hcell (q u tk r) hcd) hd
theorem tka_int {i : Int} {j pos} : TkA P w A (eval (.Constant (.int i) j pos) env) s (.int i) := fun tk E Q q => wpAny_Constant_int (q _ _ ⟨_, rfl⟩)
theorem tka_attr {e : Expr} {f : Str} {pos : Pos} {a C dx : Addr} {fs : List (Str × V)} {v : V} (hb : attributeBase e f env (eval e env) = eval e env) (he : TkA P w A (eval e env) s (.ref a)) (X : K.In s.heap) (ok : HOk P w H s.heap) (ha : H a = some (.ins C dx fs)) (c : Cls K C) (n : NoAttr K C f) (l : fs.lookup f = some v) :
    TkA P w A (eval (.Attribute e f pos) env) s v := fun tk E Q q => by
  refine attr_of hb (he tk _ _ fun u tk' r => ?_)
  obtain rfl : u = Value.ref a := r
  obtain ⟨mA, O, r, _, _, _⟩ := ins_get ok ha
  obtain ⟨u, hu, ru⟩ := RelO.some_of (v := v) (o := mA f) (by rw [← l]; exact r f)
  exact get_map (s := { s with toks := tk' }) X O (c.get f) c.hd n hu (handed_of ru) (q u _ ru)
theorem tka_dget {o i : Expr} {pos : Pos} {d : Addr} {kvs : List (Key × V)} {k : Key} {v : V} (ho : TkA P w A (eval o env) s (.ref d)) (hi : TkA P w A (eval i env) s (kV k)) (hs : NoSl i) (ok : HOk P w H s.heap) (hd : Rd H d (.dK kvs)) (hv : valV kvs k = some v) :
    TkA P w A (eval (.Subscript o i pos) env) s v := fun tk E Q q => by
  refine subD_of PySem.F.slot_dict_getitem.lookup hs (ho tk _ _ fun u tk' r => hi tk' _ _ fun iv tk2 ri => ?_)
  obtain rfl : u = Value.ref d := r
  obtain ⟨z, hd', vs, rel, dd⟩ := dk_rd ok hd
  obtain ⟨w', hw, rw'⟩ := RelO.some_of (v := v) (o := valueAt vs k) (by rw [← hv]; exact rel.val k)
  exact ⟨dd.typeIs, wpAny_getItem_of (s := { s with toks := tk2 }) (kV_is ri) dd.mapOf hw (q w' _ rw')⟩
theorem tka_ix {o i : Expr} {pos : Pos} {t : Addr} {xs : List V} {j : Nat} {v : V} (ho : TkA P w A (eval o env) s (.ref t)) (hi : TkA P w A (eval i env) s (.int (j : Int))) (hs : PlainIx i) (ok : HOk P w H s.heap) (ht : H t = some (.tup xs)) (hj : xs[j]? = some v) :
    TkA P w A (eval (.Subscript o i pos) env) s v := fun tk E Q q => by
  refine Subscript_ (ho tk _ _ fun u tk' r => hi tk' _ _ fun iv tk2 ri => ?_)
  obtain rfl : u = Value.ref t := r
  obtain ⟨tq, rfl⟩ := ri
  obtain ⟨z, its, rv, pl⟩ := (show ObjOk P w H s.heap t (.tup xs) from ok t _ ht)
  obtain ⟨w', ew, rw'⟩ := rv.get hj
  have hl := rv.length
  have hn := line63
  have hjl := (List.getElem?_eq_some_iff.mp hj).1
  exact subscriptTail_builtinR (x := w') (s := { s with toks := tk2 }) pl.typeIs slot_tuple_getitem.lookup
    (getItem_tuple (s := { s with toks := tk2 }) (j := j) (Q := fun r s' => r = w' ∧ Q r s') pl (by omega) (by omega) (by rw [List.size_toArray, ← hl]; exact seqIndex_of (by omega) (by omega)) (by simpa using ew) ⟨rfl, q w' _ rw'⟩) (hs _ _)
/-- the key: (self.d[x][i1], self.d[x][i2], x) -/
def keyBody (slf brd nm : Str) (n1 n2 : Nat) (p : Nat → Pos) : Expr :=
  .Tuple [.Subscript (.Subscript (.Attribute (.Name slf (p 0)) brd (p 1)) (.Name nm (p 2)) (p 3)) (.Constant (.int (n1 : Int)) 0 (p 4)) (p 5),
    .Subscript (.Subscript (.Attribute (.Name slf (p 6)) brd (p 7)) (.Name nm (p 8)) (p 9)) (.Constant (.int (n2 : Int)) 0 (p 10)) (p 11), .Name nm (p 12)] 0 (p 13)
theorem key_eval {slf brd nm : Str} {n1 n2 : Nat} {p : Nat → Pos} {m : Str → Option Value} {pA C dx d t cS : Addr} {fs : List (Str × V)} {kvs : List (Key × V)} {xs : List V} {i1 i2 : Int} {x : Str} {u : Value} {E : Value → Shared → Prop} {Q : Value → Shared → Prop}
    (hk : env.scope.kind = .function) (kS : env.kindOf slf = some .free) (kN : env.kindOf nm = some .local) (hcS : env.cells.lookup slf = some cS) (hcell : s.heap.IsCell cS (some (.ref pA))) (hn : s.heap.Ns env.locals m) (hm : m nm = some u) (ru : RelV (.str x) u)
    (X : K.In s.heap) (ok : HOk P w H s.heap) (ha : H pA = some (.ins C dx fs)) (c : Cls K C) (n : NoAttr K C brd) (l : fs.lookup brd = some (.ref d)) (hd : H d = some (.dK kvs)) (hv : valV kvs (Sum.inr x) = some (.ref t)) (ht : H t = some (.tup xs))
    (h1 : xs[n1]? = some (.int i1)) (h2 : xs[n2]? = some (.int i2)) (d1 : (slf == ("__debug__" : Str)) = false) (d2 : (slf == ("__classdict__" : Str)) = false) (d3 : (nm == ("__debug__" : Str)) = false)
    (hb : ∀ q, attributeBase (.Name slf q) brd env (eval (.Name slf q) env) = eval (.Name slf q) env)
    (q : ∀ (u1 u2 u3 : Value) (tk : Nat), RelV (.int i1) u1 → RelV (.int i2) u2 → RelV (.str x) u3 → Q (.ref s.heap.objs.size) { s with heap := s.heap.push { cls := .type "tuple", data := .seq [u1, u2, u3].toArray }, toks := tk }) (tk : Nat) :
    wpAny (model P w) A (eval (keyBody slf brd nm n1 n2 p) env) Q E { s with toks := tk } := by
  have eN : ∀ q, TkA P w A (eval (.Name nm q) env) s (.str x) := fun q => tka_local hk kN hn hm ru d3
  have eS : ∀ q, TkA P w A (eval (.Name slf q) env) s (.ref pA) := fun q => tka_free hk kS hcS hcell rfl d1 d2
  have eD : ∀ q1 q2, TkA P w A (eval (.Attribute (.Name slf q1) brd q2) env) s (.ref d) := fun q1 q2 => tka_attr (hb q1) (eS q1) X ok ha c n l
  have eR : ∀ q1 q2 q3 q4, TkA P w A (eval (.Subscript (.Attribute (.Name slf q1) brd q2) (.Name nm q3) q4) env) s (.ref t) := fun q1 q2 q3 q4 => tka_dget (k := Sum.inr x) (eD q1 q2) (eN q3) (fun _ _ => rfl) ok (.inl hd) hv
  have e1 := tka_ix (pos := p 5) (j := n1) (eR (p 0) (p 1) (p 2) (p 3)) (tka_int (j := 0) (pos := p 4)) (fun _ _ => rfl) ok ht h1
  have e2 := tka_ix (pos := p 11) (j := n2) (eR (p 6) (p 7) (p 8) (p 9)) (tka_int (j := 0) (pos := p 10)) (fun _ _ => rfl) ok ht h2
  refine wpAny_Tuple_spliced (args_cons (e1 tk _ _ fun u1 t1 r1 => args_cons (e2 t1 _ _ fun u2 t2 r2 => args_cons (eN (p 12) t2 _ _ fun u3 t3 r3 => args_nil ⟨by show 3 ≤ sizeLine; decide, q u1 u2 u3 t3 r1 r2 r3⟩))))
/-- the call of the lambda -/
theorem key_call {slf brd nm qual : Str} {n1 n2 : Nat} {p : Nat → Pos} {params : Arguments} {scope : Scope} {cl : List (Str × Addr)} {pm ctv : Value} {c' f : Addr} {pA C dx d t cS : Addr} {fs : List (Str × V)} {kvs : List (Key × V)} {xs : List V} {i1 i2 : Int} {x : Str} {u : Value}
    (hf : s.heap.get? f = some (PySem.W.kla_obj "<lambda>" qual params (keyBody slf brd nm n1 n2 p) scope cl pm c' ctv)) (hcd : s.heap.CodeRec (.ref c') qual) (hroom : A.depth < recursionLimit) (NL : s.heap.NoLimit)
    (hbind : bindArgs (PySem.W.kla_fn "<lambda>" qual params (keyBody slf brd nm n1 n2 p) scope cl pm (.ref c') ctv) ⟨[u], []⟩ = pure [(nm, u)])
    (hk : scope.kind = .function) (hco : scope.isCoroutine = false) (hgen : scope.isGenerator = false) (hnc : ∀ y ∈ scope.names, y.2 ≠ .cell) (kS : scope.names.lookup slf = some .free) (kN : scope.names.lookup nm = some .local)
    (hcS : cl.lookup slf = some cS) (hcell : s.heap.IsCell cS (some (.ref pA))) (ru : RelV (.str x) u)
    (X : K.In s.heap) (ok : HOk P w H s.heap) (ha : H pA = some (.ins C dx fs)) (c : Cls K C) (n : NoAttr K C brd) (l : fs.lookup brd = some (.ref d)) (hd : H d = some (.dK kvs)) (hv : valV kvs (Sum.inr x) = some (.ref t)) (ht : H t = some (.tup xs))
    (h1 : xs[n1]? = some (.int i1)) (h2 : xs[n2]? = some (.int i2)) (d1 : (slf == ("__debug__" : Str)) = false) (d2 : (slf == ("__classdict__" : Str)) = false) (d3 : (nm == ("__debug__" : Str)) = false)
    (hb : ∀ (env : Env) q, env.scope = scope → attributeBase (.Name slf q) brd env (eval (.Name slf q) env) = eval (.Name slf q) env) :
    wpAny (model P w) A (call (.ref f) [u]) (PySem.W.KeyPure (.tuple [.int i1, .int i2, .str x]) s) (fun _ _ => False) s := by
  refine wpAny_call (PySem.W.kla_callFunE hroom hf rfl hco hgen rfl hcd ?_)
  rw [hbind]
  refine wpAny_pure (wpAny_newFunctionEnv hnc (fun y hy => ?_) (fun h₁ hns hsb => ⟨NL.fresh _ hsb, ?_⟩) hk)
  · obtain rfl : y = (nm, u) := List.mem_singleton.mp hy
    exact kN
  have kp : ∀ b o, s.heap.get? b = some o → h₁.get? b = some o := fun b o e => hsb.extBut b o (Nat.ne_of_lt (Heap.lt_size e)) (Heap.get?_push_of_some _ e)
  obtain ⟨oc, hoc, hocd⟩ := hcell
  refine PySem.W.kla_codeExpr ?_
  refine key_eval (s := { s with heap := h₁ }) (env := PySem.W.envX qual scope s.heap.objs.size f (.ref c') cl) (m := fun y => [(nm, u)].reverse.lookup y) (K := K) (H := H) hk kS kN hcS ⟨oc, kp _ _ hoc, hocd⟩ hns (by simp) ru (X.keeps kp) (ok.kept kp) ha c n l hd hv ht h1 h2 d1 d2 d3 (fun q => hb _ q rfl) (fun u1 u2 u3 tk r1 r2 r3 => ?_) _
  obtain ⟨t1, rfl⟩ := r1
  obtain ⟨t2, rfl⟩ := r2
  obtain ⟨t3, rfl⟩ := r3
  refine ⟨_, tk, rfl, fun b o e => Heap.get?_push_of_some _ (kp b o e), ?_⟩
  exact .tuple (Heap.get?_push_size _ rfl) rfl rfl (.cons (.int _ _) (.cons (.int _ _) (.cons (.str _ _) .nil)))
end
theorem each_strs : ∀ {vs : List Value} {ks : List Str}, vs.length = ks.length → (∀ (j : Nat) (v : Value), vs[j]? = some v → ∃ x, ks[j]? = some x ∧ RelV (.str x) v) → PySem.W.EachIs (fun v x => RelV (.str x) v) vs ks
  | [], [], _, _ => .nil
  | v :: vs, x :: ks, hl, h => by
    obtain ⟨y, e1, e2⟩ := h 0 v rfl
    have e3 : x = y := Option.some.inj e1
    refine .cons (by rw [e3]; exact e2) (each_strs (by simpa using hl) fun j v e => ?_)
    obtain ⟨z, a, b⟩ := h (j + 1) v (by simpa using e)
    exact ⟨z, by simpa using a, b⟩
  | [], _ :: _, hl, _ => by simp at hl
  | _ :: _, [], hl, _ => by simp at hl
theorem vals_each : ∀ {vs : List Value} {ks : List Str}, PySem.W.EachIs (fun v x => RelV (.str x) v) vs ks → Vals (ks.map V.str) vs
  | _, _, .nil => .nil
  | _, _, .cons r t => .cons r (vals_each t)
/-- what is asked: sorted(e, key=lambda ..), the lambda's self in the slot i -/
def tSK (P : Addr) (q : Str) (K : PySem.W.Frag) (brd : Str) (n1 n2 i : Nat) (te : TE) : TE := fun σ H Q => te σ H fun v H1 =>
  ∃ (d pA C dx : Addr) (fs : List (Str × V)) (kvs : List (Key × V)) (ks : List Str) (g1 g2 : Str → Int), v = .ref d ∧ LamX.TabS H1 P q ∧ σ[i]? = some (some (.ref pA)) ∧ H1 pA = some (.ins C dx fs) ∧ Cls K C ∧ NoAttr K C brd ∧ fs.lookup brd = some (.ref d) ∧
    H1 d = some (.dK kvs) ∧ kvs.map (·.1) = ks.map Sum.inr ∧ (∀ x ∈ ks, ∃ t xs, valV kvs (Sum.inr x) = some (.ref t) ∧ H1 t = some (.tup xs) ∧ xs[n1]? = some (.int (g1 x)) ∧ xs[n2]? = some (.int (g2 x))) ∧
    ∀ (H2 : Hp) (ys : List Str) (p : Addr), LamX.ExtN H1 H2 → ys.Perm ks → H2 p = none → Q (.ref p) (upd H2 p (.lst (ys.map V.str)))
section
variable {X : Cx}
theorem alike_keys (g1 g2 : Str → Int) (x y : Str) : PySem.W.alike (.tuple [.int (g1 x), .int (g2 x), .str x]) (.tuple [.int (g1 y), .int (g2 y), .str y]) = true := by
  simp [PySem.W.alike, PySem.W.alikeAll]
theorem depth_key (i j : Int) (x : Str) : PyData.depth (.tuple [.int i, .int j, .str x]) = 1 := by
  simp [PyData.depth, PyData.depthAll]
theorem pe_sortKey {P c cS : Addr} {e : Expr} {te : TE} {slf brd nm : Str} {n1 n2 i k : Nat} {pp : Nat → Pos} {params : Arguments} {scope : Scope} {p pos lpos kpos : Pos}
    (hg : Gl X "sorted") (hm : X.mg "sorted" = none) (he : PE X e te) (TB : LamX.TabB X.base X.mg c P) (hcode : X.env.code = .ref c) (hr : Room k X.A) (hcalm : X.calm = true) (hN : X.N[i]? = some slf) (hV : X.env.scope.names.lookup slf = some .cell)
    (hdef : defaultsOf params X.env = ([], [])) (hfree : ∀ y ∈ scope.names, y.2 = .free → y.1 = slf) (hclo : ∀ cl : List (Str × Addr), cl.lookup slf = some cS → (cloFrom cl scope.names []).lookup slf = some cS)
    (hbind : ∀ (q : Str) (cl : List (Str × Addr)) (pm cv ctv u : Value), bindArgs (PySem.W.kla_fn "<lambda>" q params (keyBody slf brd nm n1 n2 pp) scope cl pm cv ctv) ⟨[u], []⟩ = pure [(nm, u)])
    (hk : scope.kind = .function) (hco : scope.isCoroutine = false) (hgen : scope.isGenerator = false) (hnc : ∀ y ∈ scope.names, y.2 ≠ .cell) (kS : scope.names.lookup slf = some .free) (kN : scope.names.lookup nm = some .local)
    (d1 : (slf == ("__debug__" : Str)) = false) (d2 : (slf == ("__classdict__" : Str)) = false) (d3 : (nm == ("__debug__" : Str)) = false)
    (hb : ∀ (env : Env) q, env.scope = scope → attributeBase (.Name slf q) brd env (eval (.Name slf q) env) = eval (.Name slf q) env)
    (hcc : X.env.cells.lookup slf = some cS)
    (hs0 : starEach [e] X.env = (false, eval e X.env) :: starEach [] X.env := by rfl) (hs : backTo pos (starEach [e] X.env) = (false, eval e X.env) :: backTo pos (starEach [] X.env) := by rfl) (hpl : (backTo pos (starEach [e] X.env)).any (·.1) = false := by rfl) :
    PE X (.Call (.Name "sorted" p) [e] [⟨some "key", .Lambda params (keyBody slf brd nm n1 n2 pp) scope lpos, kpos⟩] pos) (tSK P (X.env.qual ++ "<lambda>") X.K brd n1 n2 i te) := by
  refine ⟨fun pins s σ H Q I h => ?_⟩
  refine wpAny_Call_Name_kw (ld_blt I hg hm PyProof.Rows.boot_sorted ?_)
  refine PyProof.Rows.callWith_kw (args_cons (thn (he.run pins s σ H _ I h) fun v s1 ⟨x, H1, I1, r1, q1⟩ => args_nil ?_) hs0) hs hpl rfl rfl
  obtain ⟨d, pA, C, dx, fs, kvs, ks, g1, g2, rfl, tab, hslot, hp, c1, na, lf, hd, hks, hall, q⟩ := q1
  obtain rfl : v = Value.ref d := r1
  show wpAny _ _ (evalAll ((do let v ← eval (.Lambda params (keyBody slf brd nm n1 n2 pp) scope lpos) X.env; standAt pos; pure v) :: (backToKw pos (keywordEach [] X.env)).map (·.2))) _ _ s1
  refine wpAny_evalAll_cons (wpAny_bind (LamX.lam_make2 (T := [(P, X.env.qual ++ "<lambda>")]) I1 TB hcode (List.mem_singleton.mpr rfl) (fun p hp _ => by rw [List.mem_singleton.mp hp]) (fun p hp => by rw [List.mem_singleton.mp hp]; exact tab) hdef
    (fun y hy e => ⟨cS, by rw [hfree y hy e]; exact hcc⟩) fun f c' pm ctv H2 s2 I2 eN _ hf hfn hfr hco' => wpAny_bind (wpAny_standAt (wpAny_pure (wpAny_evalAll_nil ?_)))))
  show wpAny _ _ (call (.builtin "sorted") [.ref d] [(Str.ofString "key", .ref f)]) _ _ s2
  have hd2 : H2 d = some (.dK kvs) := eN d _ hd (fun _ z => nomatch z)
  have hp2 : H2 pA = some (.ins C dx fs) := eN pA _ hp (fun _ z => nomatch z)
  obtain ⟨z, lo, vs, rel, dd⟩ := dk_rd I2.hok (Or.inl hd2)
  obtain ⟨ep, hat⟩ := dd.dictAt
  have hkeys : vs.map (·.1) = ks.map Sum.inr := rel.keys.symm.trans hks
  have hl : vs.length = ks.length := by
    have e := congrArg List.length hkeys
    rw [List.length_map, List.length_map] at e
    exact e
  have h16 : vs.length ≤ sizeLine := by rw [← rel.length]; exact z
  refine PyProof.Rows.call_function_entry_kw PyProof.Rows.kind_sorted PyProof.Rows.plain_sorted PyProof.Rows.entry_sorted (PyProof.Rows.ksk_s1 _ _) ?_
  unfold Builtin.«sorted»
  refine wpAny_bind (m := checkCount "sorted" 1 1 _) (wpAny_pure ?_)
  refine wpAny_bind (PySem.W.kdu_collect (A := X.A.in1) (PySem.W.kdl_dict (knd := mixKind X.prog X.w) (kvs := vs) (ep := ep) lo) (I2.ok.hd hcalm) hat h16 fun h' tk acc hk' hacc => ?_)
  have hal : acc.toList.length = ks.length := by rw [Array.length_toList, hacc.1, hl]
  have hS : PySem.W.EachIs (fun v x => RelV (.str x) v) acc.toList ks := each_strs hal fun j v e => by
    obtain ⟨k0, x, e1, e2⟩ := hacc.2 j v (by rw [← Array.getElem?_toList]; exact e)
    have e3 : (vs.map (·.1))[j]? = some k0 := by rw [List.getElem?_map, e1]; all_goals rfl
    rw [hkeys, List.getElem?_map] at e3
    cases e4 : ks[j]? with
    | none => rw [e4] at e3; cases e3
    | some y =>
      rw [e4] at e3
      have e5 : Sum.inr y = k0 := Option.some.inj e3
      subst e5
      obtain ⟨t, ev⟩ := Value.isStrOf_shape (x := y) (v := v) e2
      exact ⟨y, rfl, t, ev⟩
  have hz : ks.length ≤ sizeLine := by rw [← hl]; exact h16
  refine wpAny_bind (wpAny_newList ?_ (by rw [hal]; exact hz))
  have hoL : (h'.push (seqObj "list" acc.toList.toArray 0)).get? h'.objs.size = some (seqObj "list" acc.toList.toArray 0) := Heap.get?_push_size _ rfl
  show wpAny _ _ _ _ _ { s2 with heap := h'.push (seqObj "list" acc.toList.toArray 0), toks := tk }
  have key : ∀ (v : Value) (x : Str), RelV (.str x) v → x ∈ ks → ∀ (h : Heap) (tk' : Nat), PySem.W.KeepsBut h'.objs.size (h'.push (seqObj "list" acc.toList.toArray 0)) h →
      wpAny (model X.prog X.w) X.A.in1.in1 (call (.ref f) [v]) (PySem.W.KeyPure (.tuple [.int (g1 x), .int (g2 x), .str x]) { s2 with heap := h, toks := tk' }) (fun _ _ => False) { s2 with heap := h, toks := tk' } := by
    intro v x rv hx h tk' kp
    have kk : ∀ b o, s2.heap.get? b = some o → h.get? b = some o := fun b o e => kp b o (Nat.ne_of_lt (Heap.lt_size (hk' b o e))) (Heap.get?_push_of_some _ (hk' b o e))
    obtain ⟨m, hn, hlo⟩ := I2.loc
    obtain ⟨u, ru, lk⟩ := hlo i slf (.ref pA) hN hslot (.inr (.inl hV))
    obtain rfl : u = Value.ref pA := ru
    have hcell : s2.heap.IsCell cS (some (.ref pA)) := by
      rcases lk with ⟨z, _⟩ | ⟨_, c2, e2, z⟩
      · have z' : X.env.scope.names.lookup slf = some .local := z
        rw [hV] at z'
        cases z'
      · rw [hcc] at e2
        cases e2
        exact z
    obtain ⟨oc, hoc, hocd⟩ := hcell
    obtain ⟨t, xs, hv, ht, h1, h2⟩ := hall x hx
    have ok := I2.hok.kept kk
    exact key_call (s := { s2 with heap := h, toks := tk' }) (K := X.K) (H := H2) (kk _ _ hf) (NdefX.codeO_at ok hco') (by show X.A.depth < recursionLimit; exact hr.depth) (I2.nolimit.keeps kk) (hbind _ _ _ _ _ _) hk hco hgen hnc kS kN (hclo _ hcc) ⟨oc, kk _ _ hoc, hocd⟩ rv
      (I2.kIn.keeps kk) ok hp2 c1 na lf hd2 hv (eN t _ ht (fun _ z => nomatch z)) h1 h2 d1 d2 d3 hb
  refine wpAny_bind (wpAny_holding (PySem.W.list_sort_key_data (A := X.A.in1) (b := false) (s := { s2 with heap := h'.push (seqObj "list" acc.toList.toArray 0), toks := tk }) (R := fun v x => RelV (.str x) v) (f := .ref f) (fun x => .tuple [.int (g1 x), .int (g2 x), .str x]) hoL hS (PySem.W.AllAlike.of (alike_keys g1 g2)) (PySem.W.Sortable.tuples fun x => ⟨_, _, rfl⟩) hz
    (fun x _ => by rw [depth_key]; have := hr.un; show X.A.units + 1 + 1 + 1 < cLine; omega) (PyProof.Rows.ksk_l1 _ _) rfl (fun v x rv hx h tk' kp => key v x rv hx h tk' kp) (fun out ep h'' tk'' kp hD hlen hE => ?_)))
  have rv := vals_each hE
  have pm : (ks.mergeSort (PySem.W.dataLe false fun x => .tuple [.int (g1 x), .int (g2 x), .str x])).Perm ks := List.mergeSort_perm _ _
  have I3 : Inv X pins σ H2 { s2 with heap := h', toks := tk } := I2.kept hk'
  refine wpAny_pure ⟨_, rfl, .ref h'.objs.size, upd H2 h'.objs.size (.lst ((ks.mergeSort _).map V.str)), I3.laid (t' := tk'') (fun b u e => kp b u (Nat.ne_of_lt (Heap.lt_size e)) (Heap.get?_push_of_some _ e)) (Nat.le_refl _)
    (show ObjOk X.prog X.w _ _ _ (.lst _) from ⟨by rw [List.length_map, pm.length_eq]; exact hz, out, ep, rv, hD⟩), rfl, q H2 _ _ eN pm (I3.hok.fresh (Nat.le_refl _))⟩
end
end FL
/-! FRev -/
/-! Rules for list(reversed(xs)) and len(set(xs)), xs a list of texts without twins. -/
namespace FL
open PySem PySem.Spec PySem.Calls PyProof.Rows L2 RT
section
variable {prog : Program} {w : World} {A : Around} {E : Value → Shared → Prop} {s : Shared}
theorem rev_extend {R : Result → Shared → Prop} {it l : Addr} {items : Array Value} (hh : A.handled = none) (hit : s.heap.IsRevIter it l ((items.size : Int) - 1)) (hl : s.heap.IsList l items) (hne : l ≠ it) (hn : items.size ≤ sizeLine)
    (S : Addr) (hSi : S ≠ it) (hSl : S ≠ l) (res : Value) (c₀ : Nat) (hS : s.heap.get? S = some { cls := .type "list", data := .seq #[] c₀ })
    (hR : ∀ h' tk acc' c', (∀ b o, b ≠ S → b ≠ it → s.heap.get? b = some o → h'.get? b = some o) → h'.get? S = some { cls := .type "list", dict := none, data := .seq acc' c', slots := #[] } → ItemsOf (fun i v => items[items.size - 1 - i]? = some v) acc' items.size → R (.ok (.ret res)) { s with heap := h', toks := tk }) :
    wpAny (model prog w) A.in1 (Builtin.List.listExtendWith (.ref S) (.ref it) res)
      (fun fin s' => match fin with | .done f => R (.ok f) s' | .again c' => c'.quiet = true ∧ codeAny (model prog w) A c' R s') (fun e s' => R (.error e) s') s := by
  have W := (Walks.listRev (prog := prog) (w := w) (A := A.in1) hh it l hne items).toS
  have hSf : S ∉ [it, l] := by simp only [List.mem_cons, List.not_mem_nil, or_false, not_or]; exact ⟨hSi, hSl⟩
  have hT : s.TypeIs (.ref it) "list_reverseiterator" := Heap.IsRevIter.typeIs hit
  have h1 : Builtin.List.listSameRef (.ref S) (.ref it) = false := by simp [Builtin.List.listSameRef, hSi]
  unfold Builtin.List.listExtendWith
  refine wpAny_bind (wpAny_typeOf hT ?_)
  rw [if_neg (by rw [h1]; decide)]
  refine wpAny_bind (wpAny_pyIter_revIter hit ?_)
  refine wpAny_bind (wpAny_holding ?_)
  unfold Builtin.List.listLengthHint
  refine wpAny_bind (wpAny_specialOf hT nolen_lri ?_)
  show wpAny _ A.in1 (specialOf (Value.ref it) (Str.ofString "__length_hint__") >>= _) _ _ _
  refine wpAny_bind (wpAny_specialOf hT hint_lri ?_)
  generalize hid : ("list_reverseiterator.__length_hint__" : String) = id0
  wp_delta
  rw [show splitId id0 = some ("list_reverseiterator", "__length_hint__") from by subst hid; decide +kernel]
  subst hid
  refine wpAny_bind (wpAny_isInstance (b := true) hT (by rw [isSubtype_type]; kernel_rfl) ?_)
  refine wpAny_pure ?_
  rw [if_neg (by decide)]
  have e0 : ((items.size : Nat) : Int) - 1 - ((0 : Nat) : Int) = (items.size : Int) - 1 := by omega
  refine wpAny_pure ⟨plainId_quiet F.plain_extend_loop _, codeAny_extend_loopS W hn _ hSf _ items.size 0 _ _ _ rfl (Nat.zero_le _) ⟨Nat.zero_le _, by rw [e0]; exact hit, hl⟩ hS (ItemsOf.nil _) fun s' acc' c' hm hS' hacc => ?_⟩
  rw [Moved.eq_with hm]
  refine hR s'.heap s'.toks acc' c' (fun b o hb hb2 e => hm.heap b o (fun hmem => ?_) e) hS' hacc
  rcases List.mem_cons.mp hmem with e' | hmem
  · exact hb e'
  · exact hb2 (List.mem_singleton.mp hmem)
theorem rev_init {R : Result → Shared → Prop} {it l : Addr} {items : Array Value} (hh : A.handled = none) (hit : s.heap.IsRevIter it l ((items.size : Int) - 1)) (hl : s.heap.IsList l items) (hne : l ≠ it) (hn : items.size ≤ sizeLine)
    (S : Addr) (hSi : S ≠ it) (hSl : S ≠ l) (hS : s.heap.get? S = some { cls := .type "list", data := .seq #[] })
    (hR : ∀ h' tk acc' c', (∀ b o, b ≠ S → b ≠ it → s.heap.get? b = some o → h'.get? b = some o) → h'.get? S = some { cls := .type "list", dict := none, data := .seq acc' c', slots := #[] } → ItemsOf (fun i v => items[items.size - 1 - i]? = some v) acc' items.size → R (.ok (.ret .none)) { s with heap := h', toks := tk }) :
    wpAny (model prog w) A.in1 (Builtin.«list.__init__» ⟨[.ref S, .ref it], []⟩)
      (fun fin s' => match fin with | .done f => R (.ok f) s' | .again c' => c'.quiet = true ∧ codeAny (model prog w) A c' R s') (fun e s' => R (.error e) s') s := by
  show wpAny _ _ (do let old ← Builtin.List.listItems (.ref S); Builtin.List.listUpdate (.ref S) (fun _ => #[]); letGo old.toList.reverse; Builtin.List.listExtendWith (.ref S) (.ref it) .none) _ _ s
  refine wpAny_bind ?_
  unfold Builtin.List.listItems
  refine wpAny_bind (wpAny_seqItems hS rfl (wpAny_pure ?_))
  show wpAny _ _ (updateSeq S (fun _ => #[]) >>= fun _ => letGo (#[] : Array Value).toList.reverse >>= fun _ => Builtin.List.listExtendWith (.ref S) (.ref it) .none) _ _ s
  refine wpAny_bind (wpAny_updateSeq hS rfl ?_)
  have hS₂ := Heap.get?_update_self (Obj.mapSeq (fun _ => (#[] : Array Value))) hS rfl
  have oth : ∀ b o, b ≠ S → s.heap.get? b = some o → (s.heap.update S (Obj.mapSeq (fun _ => (#[] : Array Value)))).get? b = some o :=
    fun b o hb e => (Heap.get?_update_other _ _ (Ne.symm hb)).trans e
  refine wpAny_bind (wpAny_letGo ?_)
  obtain ⟨ol, hol, cl, n, dl⟩ := hl
  refine rev_extend hh (hit.at fun o e => oth it o hSi.symm e) ⟨ol, oth l ol hSl.symm hol, cl, n, dl⟩ hne hn S hSi hSl .none _ hS₂ (fun h' tk acc' c' hk hS' hacc => ?_)
  exact hR h' tk acc' c' (fun b o hb hb2 e => hk b o hb hb2 (oth b o hb e)) hS' hacc
theorem rev_call {it l : Addr} {items : Array Value} {Q : Value → Shared → Prop} (hh : A.handled = none) (hit : s.heap.IsRevIter it l ((items.size : Int) - 1)) (hl : s.heap.IsList l items) (hne : l ≠ it) (hn : items.size ≤ sizeLine)
    (hQ : ∀ h' tk acc' c', (∀ b o, b ≠ it → s.heap.get? b = some o → h'.get? b = some o) → h'.get? s.heap.objs.size = some { cls := .type "list", dict := none, data := .seq acc' c', slots := #[] } → ItemsOf (fun i v => items[items.size - 1 - i]? = some v) acc' items.size → Q (.ref s.heap.objs.size) { s with heap := h', toks := tk }) :
    wpAny (model prog w) A (call (.type "list") [.ref it]) Q E s := by
  refine callType_codes (Q₁ := fun obj s₁ => obj = .ref s.heap.objs.size ∧ s₁ = { s with heap := s.heap.push { cls := .type "list", data := .seq #[] } }) PySem.F.called_list (PySem.F.typeCall_list_1 _) PySem.F.entry_list_init
    (code_list_new _ ⟨rfl, rfl⟩) fun obj s₁ h₁ => ?_
  obtain ⟨rfl, rfl⟩ := h₁
  have hS : (s.heap.push { cls := .type "list", data := .seq #[] }).get? s.heap.objs.size = some { cls := .type "list", data := .seq #[] } := Heap.get?_push_size _ rfl
  obtain ⟨oi, hoi, _⟩ := id hit
  obtain ⟨ol, hol, _⟩ := id hl
  refine ⟨⟨_, hS, rfl⟩, PySem.F.args_list_init_2 _ _, rev_init (A := A.in1) hh (hit.at fun o e => Heap.get?_push_of_some _ e) (hl.push _) hne hn _ (Nat.ne_of_gt (Heap.lt_size hoi)) (Nat.ne_of_gt (Heap.lt_size hol)) hS (fun h' tk acc' c' hk hS' hacc => ?_)⟩
  exact ⟨rfl, hQ h' tk acc' c' (fun b o hb e => hk b o (Nat.ne_of_lt (Heap.lt_size e)) hb (Heap.get?_push_of_some _ e)) hS' hacc⟩
end
/-- list(reversed(x)), x a list: a new list -/
def tLstRev (K : PySem.W.Frag) (te : TE) : TE := fun σ H Q => te σ H fun v H1 => ∃ (a : Addr) (xs : List V), v = .ref a ∧ SqL K H1 a xs ∧ ∀ q, H1 q = none → Q (.ref q) (upd H1 q (.lst xs.reverse))
section
variable {X : Cx}
theorem pe_lstRev {e : Expr} {te : TE} {p p2 pos pos2 : Pos} (hc : X.calm = true) (hg : Gl X "list") (hm : X.mg "list" = none) (hg2 : Gl X "reversed") (hm2 : X.mg "reversed" = none) (he : PE X e te)
    (hs : starEach [e] X.env = (false, eval e X.env) :: starEach [] X.env := by rfl)
    (hs2 : starEach [.Call (.Name "reversed" p2) [e] [] pos2] X.env = (false, eval (.Call (.Name "reversed" p2) [e] [] pos2) X.env) :: starEach [] X.env := by rfl) :
    PE X (.Call (.Name "list" p) [.Call (.Name "reversed" p2) [e] [] pos2] [] pos) (tLstRev X.K te) := by
  refine ⟨fun pins s σ H Q I h => ?_⟩
  refine Call_ (ld_blt I hg hm (show bootBuiltins "list" = some (.type "list") by decide +kernel) (PyProof.Rows.callWith_type1 (args_cons (Call_ (ld_blt I hg2 hm2 PyProof.Rows.boot_reversed (PyProof.Rows.callWith_type1 (args_cons (thn (he.run pins s σ H _ I h) fun u s1 ⟨v, H1, I1, r1, q1⟩ => args_nil ?_) hs) hs rfl))) hs2) hs2 rfl))
  obtain ⟨a, xs, ev, hq, q⟩ := q1
  subst ev
  obtain rfl : u = Value.ref a := r1
  obtain ⟨its, rv, p', hz⟩ := I1.list hq
  refine call_reversed_list p'.isList (args_nil ?_)
  have k0 : ∀ b o, s1.heap.get? b = some o → (s1.heap.push (revObj a ((its.toArray.size : Int) - 1))).get? b = some o := fun b o e => Heap.get?_push_of_some _ e
  have I2 : Inv X pins σ H1 { s1 with heap := s1.heap.push (revObj a ((its.toArray.size : Int) - 1)) } := I1.kept (t' := s1.toks) k0
  have hl := p'.isList
  obtain ⟨ol, hol, _⟩ := id hl
  have hne : a ≠ s1.heap.objs.size := Nat.ne_of_lt (Heap.lt_size hol)
  have hn : its.toArray.size ≤ sizeLine := by rw [List.size_toArray, ← rv.length]; exact hz
  refine rev_call (s := { s1 with heap := s1.heap.push (revObj a ((its.toArray.size : Int) - 1)) }) (I1.ok.hd hc) ⟨_, Heap.get?_push_size _ rfl, rfl, rfl⟩ (hl.push _) hne hn fun h' tk acc c' hk hS hi => ?_
  have hsz : (s1.heap.push (revObj a ((its.toArray.size : Int) - 1))).objs.size = s1.heap.objs.size + 1 := size_push' _ _
  have nF : H1 (s1.heap.push (revObj a ((its.toArray.size : Int) - 1))).objs.size = none := I2.hok.fresh (Nat.le_refl _)
  have lS : xs.reverse.length ≤ sizeLine := by rw [List.length_reverse]; exact hz
  have I3 : Inv X pins σ (upd H1 (s1.heap.push (revObj a ((its.toArray.size : Int) - 1))).objs.size (.lst xs.reverse)) { s1 with heap := (s1.heap.push (revObj a ((its.toArray.size : Int) - 1))).push { cls := .type "list", dict := none, data := .seq acc c', slots := #[] }, toks := tk } :=
    I2.laid (t' := tk) (fun b o e => Heap.get?_push_of_some _ e) (Nat.le_refl _) (show ObjOk X.prog X.w _ _ _ (.lst xs.reverse) from ⟨lS, acc.toList, c', vals_rev rv hi, by rw [Array.toArray_toList]; exact Heap.get?_push_size _ rfl⟩)
  obtain ⟨f0, f1, f2, f3, f4, f5⟩ := I1.fpOk (H' := upd H1 (s1.heap.push (revObj a ((its.toArray.size : Int) - 1))).objs.size (.lst xs.reverse)) (b := s1.heap.objs.size) (Nat.le_refl _) (by rw [upd_ne (by rw [hsz]; exact Nat.ne_of_lt (Nat.lt_succ_self _))]; exact I1.hok.fresh (Nat.le_refl _))
  refine ⟨.ref _, upd H1 (s1.heap.push (revObj a ((its.toArray.size : Int) - 1))).objs.size (.lst xs.reverse), I3.turned (t' := tk) (fun b o hb e => ?_) f0 f1 f3 f4 f5, rfl, q _ nF⟩
  rcases Heap.get?_push_cases e with ⟨rfl, rfl⟩ | e
  · exact hS
  · exact hk b o hb e
end
end FL
/-! FSet -/
/-! A rule for len(set(xs)), xs a list of texts no two of which are equal: keys of any kind that the model compares by value. -/
namespace FL
open PySem PySem.Spec PySem.Calls PyProof.Rows L2
section
variable {prog : Program} {w : World} {A : Around} {κ : Type} [DecidableEq κ] {knd : KeyKind prog w κ}
theorem setOf_at {h h' : Heap} {S : Addr} {f : κ → Bool} {n : Nat} (x : h.SetOf knd S f n) (e : ∀ o, h.get? S = some o → h'.get? S = some o) : h'.SetOf knd S f n := by
  obtain ⟨o, es, ep, t, ho, r⟩ := x
  exact ⟨o, es, ep, t, e o ho, r⟩
theorem setOf_as {h : Heap} {S : Addr} {f g : κ → Bool} {n m : Nat} (x : h.SetOf knd S f n) (e : ∀ k, f k = g k) (en : n = m) : h.SetOf knd S g m := by
  have e' : f = g := funext e
  rw [← e', ← en]
  exact x
theorem nodup_next {xs : List κ} {i : Nat} {x : κ} (nd : xs.Nodup) (hi : xs[i]? = some x) : x ∉ xs.take i := by
  intro hm
  obtain ⟨j, hj⟩ := List.mem_iff_getElem?.mp hm
  have hlt : j < i := by
    have := (List.getElem?_eq_some_iff.mp hj).1
    rw [List.length_take] at this
    omega
  rw [List.getElem?_take_of_lt hlt] at hj
  obtain ⟨h1, e1⟩ := List.getElem?_eq_some_iff.mp hj
  obtain ⟨h2, e2⟩ := List.getElem?_eq_some_iff.mp hi
  have := (List.getElem_inj nd).mp (e1.trans e2.symm)
  omega
/-- the loop of set(xs): the first i keys are in -/
theorem set_loop {R : Result → Shared → Prop} {It : Addr} {fp wr : List Addr} {G : Array GenState → Array GenState → Prop} {n : Nat} {Pk : Nat → Value → Prop} {St : Nat → Shared → Prop} (W : WalksS prog w A.in1 It fp wr G n Pk St)
    (S : Addr) (hSf : S ∉ fp) (xs : List κ) (nd : xs.Nodup) (hn : xs.length = n) (few : n + 1 < scanBound) (hval : ∀ i v, Pk i v → ∃ k, xs[i]? = some k ∧ knd.is k v = true) (hsc : ∀ k v, knd.is k v = true → v.scannable = true) :
    ∀ (left i : Nat) (s : Shared), n - i = left → i ≤ n → St i s → s.heap.SetOf knd S (fun k => decide (k ∈ xs.take i)) i →
      (∀ s', Moved (S :: wr) G s s' → s'.heap.SetOf knd S (fun k => decide (k ∈ xs.take n)) n → R (.ok (.ret .none)) s') → codeAny (model prog w) A (.builtin "set.update.loop" ⟨[.ref S, .ref It], []⟩) R s := by
  have nw : S ∉ wr := fun h => hSf (W.sub _ h)
  have up : ∀ b ∈ wr, b ∈ S :: wr := fun b hb => List.mem_cons_of_mem _ hb
  intro left
  induction left with
  | zero =>
    intro i s hl hi hst hS fin
    obtain rfl : i = n := by omega
    refine codeAny_builtin PyProof.Rows.F.entry_set_update_loop ?_
    rw [Around.under_plainId PyProof.Rows.F.plain_set_update_loop _]
    show wpAny _ A.in1 (pyNext (.ref It) >>= _) _ _ s
    refine wpAny_bind (W.done s _ _ hst fun s' mv => ?_)
    show wpAny _ A.in1 (ret Value.none) _ _ s'
    exact wpAny_pure (fin s' (mv.mono up) (setOf_at hS fun o e => mv.heap S o nw e))
  | succ left ih =>
    intro i s hl hi hst hS fin
    have lt : i < n := by omega
    refine codeAny_builtin PyProof.Rows.F.entry_set_update_loop ?_
    rw [Around.under_plainId PyProof.Rows.F.plain_set_update_loop _]
    show wpAny _ A.in1 (pyNext (.ref It) >>= _) _ _ s
    refine wpAny_bind (W.item i s _ _ lt hst fun v s' hP hst' mv => ?_)
    obtain ⟨x, hx, hv⟩ := hval i v hP
    have hS' := setOf_at hS fun o e => mv.heap S o nw e
    show wpAny _ A.in1 (holding [v] (setAdd S v) >>= _) _ _ s'
    refine wpAny_bind (wpAny_holding ?_)
    unfold setAdd
    refine wpAny_holding (wpAny_bind (knd.pyHash hv ?_))
    refine wpAny_setAddHashed_of (s := { s' with toks := s'.toks + 1 }) hv (hsc x v hv) hS' (by omega) fun h' sb hS2 => ?_
    have hS3 : h'.SetOf knd S (fun k => decide (k ∈ xs.take (i + 1))) (i + 1) := setOf_as hS2 (fun k => by
        rw [List.take_add_one, hx]
        simp [List.mem_append]) (by rw [if_neg (by simp [nodup_next nd hx])])
    refine wpAny_pure ⟨plainId_quiet PyProof.Rows.F.plain_set_update_loop _, ih (i + 1) _ (by omega) lt (W.frame _ s' _ _ hst' (Nat.le_succ _) fun b hb o e => ?_) hS3 fun s2 mv2 hS4 => fin s2 (Moved.trans W.gtrans ((mv.mono up).then_heap (Nat.le_succ _) fun b o hb e => ?_) mv2) hS4⟩
    · exact (sb.2 b fun z => hSf (z ▸ hb)).trans e
    · exact (sb.2 b fun z => hb (z ▸ List.mem_cons_self)).trans e
end
section
variable {prog : Program} {w : World} {A : Around} {E : Value → Shared → Prop} {s : Shared}
abbrev nSet (led : Bool) : Obj := { cls := .type "set", dict := none, data := .set #[] 0 (.fresh 0 0 led) }
/-- set(xs) -/
theorem set_of_texts {l : Addr} {items : Array Value} {xs : List Str} {Q : Value → Shared → Prop} (hh : A.handled = none) (hl : s.heap.IsList l items) (hi : ∀ (i : Nat) (v : Value), items[i]? = some v → ∃ x, xs[i]? = some x ∧ (PySem.strKind prog w).is x v = true) (hn : xs.length = items.size) (nd : xs.Nodup) (few : items.size + 1 < scanBound)
    (h : ∀ (h' : Heap) (tk : Nat), h'.SetOf (PySem.strKind prog w) s.heap.objs.size (fun k => decide (k ∈ xs.take items.size)) items.size → (∀ b o, s.heap.get? b = some o → h'.get? b = some o) → Q (.ref s.heap.objs.size) { s with heap := h', toks := tk }) :
    wpAny (model prog w) A (call (.type "set") [.ref l]) Q E s := by
  obtain ⟨c, tl, hmro⟩ := PySem.F.called_set.mro
  have k1 := PySem.F.called_set.made
  have k2 := PySem.F.called_set.sub
  have k3 := PySem.F.called_set.notType
  have k4 := PySem.F.called_set.canCreate
  have k5 := PySem.F.typeCall_set_1 (.ref l)
  refine wpAny_call (codeAny_of_tree ?_)
  show wpAny _ _ (callAny (.type "set") _) _ _ _
  refine wpAny_pure ⟨Code.quiet_builtin _ (by decide +kernel), codeAny_builtin PySem.F.entry_type_call ?_⟩
  rw [Around.under_plain (weight_type_call_type "set" [.ref l] []) rfl]
  repeat (any_goals (first | assumption | wp_step))
  refine codeAny_mono (code_set_new_1 (.ref l) (E := E) (Q₁ := fun v s1 => ∃ led : Bool, v = .ref s.heap.objs.size ∧ s1 = { s with heap := s.heap.push (nSet led) }) fun led => ⟨led, rfl, rfl⟩) fun r s1 hr => ?_
  match r, hr with
  | .ok (.ret v), hr =>
    obtain ⟨led, rfl, rfl⟩ := hr
    have at0 : (s.heap.push (nSet led)).get? s.heap.objs.size = some (nSet led) := Heap.get?_push_size _ rfl
    have ty0 : Shared.TypeIs { s with heap := s.heap.push (nSet led) } (.ref s.heap.objs.size) "set" := ⟨_, at0, rfl⟩
    have k6 := PySem.F.called_set.init.lookup
    have k7 := PySem.F.called_set.init.bind (.ref s.heap.objs.size)
    repeat (any_goals (first | assumption | wp_step))
    refine codeAny_mono (codeAny_call_builtin (R := wants (fun u s2 => u = .none ∧ ∃ h' tk, s2 = { s with heap := h', toks := tk } ∧ h'.SetOf (PySem.strKind prog w) s.heap.objs.size (fun k => decide (k ∈ xs.take items.size)) items.size ∧
        (∀ b o, s.heap.get? b = some o → h'.get? b = some o)) E) PySem.F.called_set.init.plain PySem.F.entry_set_init (check_set_init_1 ty0 ?_)) fun r2 s2 hr2 => ?_
    · obtain ⟨⟨oc, od, dt, sl⟩, ho, hc, nl, hd⟩ := hl
      obtain rfl : oc = .type "list" := hc
      obtain rfl : dt = .seq items nl := hd
      have j1 := PySem.F.sub_list_set
      have j2 := PySem.F.sub_list_frozenset
      have j3 : (Value.type "list" == Value.type "dict") = false := by decide
      have ho1 := Heap.get?_push_of_some (nSet led) ho
      have hl1 : (s.heap.push (nSet led)).IsList l items := ⟨_, ho1, rfl, nl, rfl⟩
      unfold Builtin.«set.__init__» noKeywords Builtin.Frozenset.updateFrom
      generalize hPI : pyIter = PI
      wp_walk
      subst hPI
      refine wpAny_pyIter_list hl1 (wpAny_bind (wpAny_runValue ?_))
      have lS : l < s.heap.objs.size := Heap.lt_size ho
      have sz : (s.heap.push (nSet led)).objs.size = s.heap.objs.size + 1 := Heap.size_push ..
      refine set_loop (knd := PySem.strKind prog w) ((Walks.list (by simp [hh]) _ l (show l ≠ (s.heap.push (nSet led)).objs.size by rw [sz]; exact Nat.ne_of_lt (Nat.lt_succ_of_lt lS)) items).toS) s.heap.objs.size (by
          simp only [List.mem_cons, List.not_mem_nil, or_false, not_or]
          exact ⟨(show s.heap.objs.size ≠ (s.heap.push (nSet led)).objs.size by rw [sz]; exact Nat.ne_of_lt (Nat.lt_succ_self _)), Nat.ne_of_gt lS⟩) xs nd hn few hi
        (fun k v e => by obtain ⟨t, rfl⟩ := Value.isStrOf_shape (x := k) (v := v) e; rfl) items.size 0 _ (by omega) (Nat.zero_le _) ⟨⟨_, Heap.get?_push_size _ rfl, rfl, rfl⟩, hl1.push _⟩
        (setOf_as ((setObjOf_fresh (knd := PySem.strKind prog w) led).setOf (Heap.get?_push_of_some _ at0) (by unfold scanBound; omega)) (fun k => by simp) rfl) fun s' mv hS => ?_
      obtain ⟨h', g', d', tk', os'⟩ := s'
      obtain rfl : g' = s.gens := mv.gens
      obtain rfl : d' = s.drawn := mv.drawn
      obtain rfl : os' = s.os := mv.os
      show wpAny _ _ _ _ _ _
      refine wpAny_pure ?_
      show wpAny _ _ (ret Value.none) _ _ _
      refine wpAny_pure ⟨rfl, h', tk', rfl, hS, fun b o e => ?_⟩
      have lb := Heap.lt_size e
      exact mv.heap b o (by
        simp only [List.mem_cons, List.not_mem_nil, or_false, not_or]
        exact ⟨Nat.ne_of_lt lb, (show b ≠ (s.heap.push (nSet led)).objs.size by rw [sz]; exact Nat.ne_of_lt (Nat.lt_succ_of_lt lb))⟩) (Heap.get?_push_of_some _ (Heap.get?_push_of_some _ e))
    · match r2, hr2 with
      | .ok (.ret u), hr2 =>
        obtain ⟨rfl, h', tk, rfl, hS, hk⟩ := hr2
        repeat (any_goals (first | assumption | wp_step))
        exact h _ _ hS hk
      | .error e, hr2 => exact hr2
  | .error e, hr => exact hr
end
/-- len(set(x)): x a list of texts, no two equal -/
def tLenSetS (K : PySem.W.Frag) (ta : TE) : TE := fun σ H Q => ta σ H fun x H1 => ∃ (l : Addr) (xs : List Str), x = .ref l ∧ SqL K H1 l (xs.map V.str) ∧ xs.Nodup ∧ xs.length ≤ 1000 ∧ Q (.int xs.length) H1
theorem pe_lenSetS {X : Cx} {a : Expr} {ta : TE} {p p2 q pos : Pos} (hc : X.calm = true) (hg : Gl X "len") (hm : X.mg "len" = none) (hg2 : Gl X "set") (hm2 : X.mg "set" = none) (ha : PE X a ta)
    (na : starEach [a] X.env = (false, eval a X.env) :: starEach [] X.env := by rfl) : PE X (.Call (.Name "len" p) [.Call (.Name "set" p2) [a] [] q] [] pos) (tLenSetS X.K ta) := by
  refine ⟨fun pins s σ H Q I h => ?_⟩
  refine Call_ (ld_blt I hg hm boot_len (PyProof.Rows.callWith_builtin1 (PyProof.Rows.args_cons ?_ rfl) rfl rfl))
  refine Call_ (ld_blt I hg2 hm2 (show bootBuiltins "set" = some (.type "set") by decide +kernel) (PyProof.Rows.callWith_type1 (PyProof.Rows.args_cons (thn (ha.run pins s σ H _ I h) fun v s1 ⟨x, H1, I1, r1, q1⟩ => PyProof.Rows.args_nil ?_) na) na rfl))
  obtain ⟨l, xs, rfl, hq, nd, few, q1⟩ := q1
  cases r1
  obtain ⟨its, r, pl, hz⟩ := I1.list hq
  have hl : its.toArray.size = xs.length := by rw [List.size_toArray, ← r.length, List.length_map]
  refine set_of_texts (xs := xs) (I1.ok.hd hc) pl.isList (fun i v hv => ?_) hl.symm nd (by rw [hl]; unfold scanBound; omega) fun h' tk hS hk => PyProof.Rows.args_nil ?_
  · have hv' : its[i]? = some v := by simpa using hv
    have hi : i < xs.length := by
      have := (List.getElem?_eq_some_iff.mp hv').1
      rw [← hl]
      simpa using this
    obtain ⟨u, hu, ru⟩ := r.get (i := i) (x := V.str xs[i]) (by simp [List.getElem?_map, hi])
    rw [hv'] at hu
    cases hu
    obtain ⟨t, rfl⟩ := ru
    exact ⟨xs[i], by simp [hi], strKind_is _ _ _ _⟩
  · rw [hl] at hS
    obtain ⟨o, es, ep, t, ho, hex, hd, _, _, _, hf, hn⟩ := hS
    have I2 : Inv X pins σ H1 { s1 with heap := h', toks := tk } := I1.kept hk
    exact call_len_set ho hex hd hf (by rw [hn]; omega) ⟨.int xs.length, H1, I2.tok _, ⟨_, by rw [hn]⟩, q1⟩
end FL
/-! FHead -/
namespace FP
open PySem PySem.Spec PyProof.Rows L2
abbrev R : PySem.W.OpenRow := PySem.W.OpenLaw.row PySem.Challenge.rw_fleetpath_k25_whole_links_go_on
abbrev hk : PySem.W.Hook := He.hookX 4 fa fn [] tf ex
def ob (s : PySem.W.SharedT) : He.AlX := He.obsX 4 fa fn [] tf ex (HandSHeadRun.getT s)
theorem ob_eq (s : PySem.W.SharedT) : ob s = hk.obs s.abs := He.obsX_eq (HandSHeadRun.getT_eq s)
def loose0 : List PySem.Str := ["gap", "linked", "links", "LIMIT", "FleetError", "BadName", "BadNumber", "TooMany", "Twice", "NoPlace", "NoTrip", "NoWay", "SIGNS"]
def loose1 : List PySem.Str := ["LONGEST", "checked_name", "checked_number", "MOST_PLACES", "MOST_WAYS", "check_roads", "heights_from", "place_ahead", "Roads", "MOST_TRIPS", "Backward", "TooFast", "check_trip"]
def loose2 : List PySem.Str := ["Table", "_law_cell_at", "_law_mix", "_law_names", "_law_ways", "_law_lengths", "_law_trip", "_law_trips", "_law_whole", "_law_driven", "_law_paper", "_law_behind"]
def loose : List PySem.Str := loose0 ++ loose1 ++ loose2
theorem run (w : World) : HandSHeadRun.RunEq R (PySem.W.view R.prog [44]) hk ob 4000 loose w := by
  intro os
  kernel_rfl
end FP
/-! FBase -/
namespace FP
open PySem PySem.Spec PyProof.Rows L2 FM
/-! ### heaps -/
theorem same_new {H : Hp} {p : Addr} {o : HO} (h : H p = none) : Same H (upd H p o) := fun b u e => by
  rw [upd_ne (ne_of_none e h)]
  exact e
/-- what was not there ahead may be written -/
theorem same_mut {H H' : Hp} {p : Addr} {o : HO} (s : Same H H') (h : H p = none) : Same H (upd H' p o) := fun b u e => by
  rw [upd_ne (ne_of_none e h)]
  exact s b u e
/-- a new object: from here on the heap is any that holds it -/
theorem fresh {H : Hp} {p : Addr} {o : HO} {G : Hp → Prop} (h : H p = none) (k : ∀ H1, Same H H1 → H1 p = some o → G H1) : G (upd H p o) := k _ (same_new h) upd_same
/-! ### data -/
abbrev Way := Str × Str × Int
structure Tr where
  nm : Str
  o : Str
  g : Str
  st : Int
  fi : Int
  se : Int
def wV (w : Way) : List V := [.str w.1, .str w.2.1, .int w.2.2]
def tV (t : Tr) : List V := [.str t.nm, .str t.o, .str t.g, .int t.st, .int t.fi, .int t.se]
abbrev sV (xs : List Str) : List V := xs.map V.str
/-- at the places ps stand tuples of the things bs -/
def Tups {β : Type} (enc : β → List V) (H : Hp) (ps : List Addr) (bs : List β) : Prop := ps.length = bs.length ∧ ∀ (i : Nat) (p : Addr) (b : β), ps[i]? = some p → bs[i]? = some b → H p = some (.tup (enc b))
section
variable {β : Type} {enc : β → List V} {H H' : Hp} {ps : List Addr} {bs : List β}
theorem Tups.mono (s : Same H H') (t : Tups enc H ps bs) : Tups enc H' ps bs := ⟨t.1, fun i p b h1 h2 => s _ _ (t.2 i p b h1 h2)⟩
theorem Tups.nil : Tups enc H [] [] := ⟨rfl, fun i p b h => by simp at h⟩
theorem Tups.snoc {p : Addr} {b : β} (t : Tups enc H ps bs) (h : H p = some (.tup (enc b))) : Tups enc H (ps ++ [p]) (bs ++ [b]) := by
  refine ⟨by rw [List.length_append, List.length_append, t.1]; rfl, fun i q c h1 h2 => ?_⟩
  by_cases hi : i < ps.length
  · rw [List.getElem?_append_left hi] at h1
    rw [List.getElem?_append_left (by rw [← t.1]; exact hi)] at h2
    exact t.2 i q c h1 h2
  · rw [List.getElem?_append_right (by omega)] at h1
    rw [List.getElem?_append_right (by rw [← t.1]; omega)] at h2
    have e : i - ps.length = 0 := by
      cases hh : i - ps.length with
      | zero => rfl
      | succ n => rw [hh] at h1; simp at h1
    have e2 : i - bs.length = 0 := by rw [← t.1]; exact e
    rw [e] at h1
    rw [e2] at h2
    simp at h1 h2
    rw [← h1, ← h2]
    exact h
theorem Tups.at {i : Nat} {x : V} (t : Tups enc H ps bs) (h : (ps.map V.ref)[i]? = some x) : ∃ p b, x = .ref p ∧ ps[i]? = some p ∧ bs[i]? = some b ∧ b ∈ bs ∧ H p = some (.tup (enc b)) := by
  rw [List.getElem?_map] at h
  cases e : ps[i]? with
  | none => rw [e] at h; cases h
  | some p =>
    rw [e] at h
    have hi := (List.getElem?_eq_some_iff.mp e).1
    have hb : i < bs.length := by rw [← t.1]; exact hi
    have eb : bs[i]? = some bs[i] := List.getElem?_eq_getElem hb
    exact ⟨p, bs[i], (Option.some.inj h).symm, rfl, eb, List.getElem_mem hb, t.2 i p _ e eb⟩
end
/-- at a stands a list of these tuples -/
def LstT {β : Type} (enc : β → List V) (H : Hp) (a : Addr) (bs : List β) : Prop := ∃ ps : List Addr, H a = some (.lst (ps.map V.ref)) ∧ Tups enc H ps bs
theorem LstT.mono {β : Type} {enc : β → List V} {H H' : Hp} {a : Addr} {bs : List β} (s : Same H H') (t : LstT enc H a bs) : LstT enc H' a bs := by
  obtain ⟨ps, h1, h2⟩ := t
  exact ⟨ps, s _ _ h1, h2.mono s⟩
/-- heights as a dict -/
def encH (hs : List (Str × Int)) : List (Key × V) := hs.map fun p => ((Sum.inr p.1 : Key), V.int p.2)
theorem key_inr (a b : Str) : ((Sum.inr a : Key) = Sum.inr b) ↔ a = b := ⟨fun h => Sum.inr.inj h, fun h => by rw [h]⟩
theorem encH_val (hs : List (Str × Int)) (x : Str) : valV (encH hs) (Sum.inr x : Key) = (lk hs x).map V.int := by
  induction hs with
  | nil => rfl
  | cons p r ih =>
    unfold lk at ih ⊢
    show valV (((Sum.inr p.1 : Key), V.int p.2) :: encH r) _ = _
    by_cases e : p.1 = x
    · rw [valV_pos (p := ((Sum.inr p.1 : Key), V.int p.2)) (by rw [e])]
      simp [List.find?_cons, e]
    · rw [valV_neg (p := ((Sum.inr p.1 : Key), V.int p.2)) (fun h => e (Sum.inr.inj h)), ih]
      simp [List.find?_cons, e]
theorem encH_put (hs : List (Str × Int)) (x : Str) (v : Int) : putK (encH hs) (Sum.inr x : Key) (V.int v) = encH (pt hs x v) := by
  have any : ((encH hs).any fun kv => decide (kv.1 = (Sum.inr x : Key))) = (hs.any fun kv => decide (kv.1 = x)) := by
    unfold encH
    rw [List.any_map]
    congr 1
    funext p
    show decide ((Sum.inr p.1 : Key) = Sum.inr x) = decide (p.1 = x)
    exact key_rr _ _
  unfold putK pt
  rw [any]
  split
  · unfold encH
    rw [List.map_map, List.map_map]
    refine List.map_congr_left fun p _ => ?_
    show (if ((Sum.inr p.1 : Key) = Sum.inr x) then ((Sum.inr p.1 : Key), V.int v) else ((Sum.inr p.1 : Key), V.int p.2)) = ((Sum.inr (if p.1 = x then (p.1, v) else p).1 : Key), V.int (if p.1 = x then (p.1, v) else p).2)
    by_cases e : p.1 = x
    · rw [if_pos (by rw [e]), if_pos e]
    · rw [if_neg (fun h => e (Sum.inr.inj h)), if_neg e]
  · unfold encH
    rw [List.map_append]
    rfl
theorem encH_len (hs : List (Str × Int)) : (encH hs).length = hs.length := List.length_map ..
/-- an answer that may lack -/
def optV : Option Int → V
  | none => .non
  | some i => .int i
theorem getD_optV (o : Option Int) : (o.map V.int).getD .non = optV o := by cases o <;> rfl
/-- the signs of names -/
def SIGNS : Str := "abcdefghijklmnopqrstuvwxyz0123456789"
def okName (n : Str) : Prop := 0 < n.length ∧ n.length ≤ 12 ∧ ∀ c ∈ n.cps.toList, c ∈ SIGNS.cps.toList
def LIM : Int := 1000000000
end FP
/-! FA -/
namespace FP
open PySem PySem.Spec PyProof.Rows L2 FM
section
variable {P : Program} {w : World} {K : PySem.W.Frag} {mg : Str → Option Value} {base : Heap}
/-! ### checked_name, checked_number -/
def spCname : Sp := fun vs H Q _ => ∃ n : Str, vs = [.str n] ∧ okName n ∧ Q (.str n) H
theorem sc_cname : FnScope ["name", "sign"] ["name"] (defScope st_cname) := ⟨rfl, rfl, rfl, by decide +kernel, rfl, by decide +kernel, by decide +kernel⟩
theorem ok_cname (T : Tx w K mg) : Ok P w K mg base 1 (He.ga K "checked_name") ["name"] spCname := by
  obtain ⟨tL, gL⟩ := T.i_LONGEST
  obtain ⟨tS, gS⟩ := T.s_SIGNS
  refine ok_of T.d_cname sc_cname (fun vs H Q E h => ?_) (fun _ _ _ _ _ _ us hl => match us, hl with | [_], _ => rfl) (fun cdv A outer s H vs Q E hr h => ?_)
  · obtain ⟨n, rfl, _⟩ := h
    rfl
  · obtain ⟨n, rfl, ⟨h1, h2, h3⟩, k⟩ := h
    refine ⟨_, pss_cons (ps_if (PW.pt (pw_or (pt_cmpR op_eq (pe_callB call_len_str (by rfl) T.n_len PySem.boot_len (pa_cons (pv 0) pa_nil)) pe_int (nomark _))
        (pw_or1 (pt_cmpR op_gt (pe_callB call_len_str (by rfl) T.n_len PySem.boot_len (pa_cons (pv 0) pa_nil)) (pe_glob (v := .int 12) rfl gL ⟨_, rfl⟩) (nomark _))))) (pss_one ps_never) pss_nil)
      (pss_cons (ps_for PassesOwn.never rfl (pi_str (pv 0)) (pg_name (i := 1) sc_cname.nd rfl (Or.inl rfl)) (pss_one (ps_if (pt_cmpR op_notIn_sign (pv 1) (pe_glob (v := .str SIGNS) rfl gS ⟨_, rfl⟩) rfl) (pss_one ps_never) pss_nil)))
      (pss_one (ps_ret (pv 0)))), ?_⟩
    have hz : n.length ≤ sizeLine := Nat.le_trans h2 (by decide)
    refine ⟨_, rfl, _, rfl, hz, rfl, _, rfl, ?_⟩
    have e1 : decide (V.int (n.length : Int) = V.int 0) = false := decide_eq_false (fun q => by injection q; omega)
    rw [e1]
    refine iteF ?_
    refine ⟨_, rfl, _, rfl, hz, _, _, rfl, rfl, _, rfl, ?_⟩
    have e2 : decide ((12 : Int) < (n.length : Int)) = false := decide_eq_false (by omega)
    show if decide ((12 : Int) < (n.length : Int)) = true then _ else _
    rw [e2]
    refine iteF ?_
    refine ⟨_, rfl, n, rfl, for_it walk_str (fun i σ H' => ∃ v, σ = [some (.str n), v] ∧ H' = H) ⟨none, rfl, rfl⟩ (fun _ _ _ _ _ => trivial) ?_ ?_⟩
    · rintro i x σ H1 H2 hi ⟨v, rfl, rfl⟩ ⟨rfl, c, hc, rfl⟩
      refine ⟨_, rfl, c, _, rfl, rfl, _, rfl, ?_⟩
      have hm : c ∈ n.cps.toList := by
        rw [← Array.getElem?_toList] at hc
        exact List.mem_of_getElem? hc
      have e3 : decide (c ∈ (SIGNS : Str).cps.toList) = true := decide_eq_true (h3 c hm)
      show if (!decide (c ∈ (SIGNS : Str).cps.toList)) = true then _ else _
      rw [e3]
      exact iteF ⟨_, rfl, rfl⟩
    · rintro σ H1 ⟨v, rfl, rfl⟩
      exact ⟨_, rfl, k⟩
def spCnumber : Sp := fun vs H Q _ => ∃ v l : Int, vs = [.int v, .int l] ∧ l ≤ v ∧ v ≤ LIM ∧ Q (.int v) H
theorem sc_cnumber : FnScope ["value", "least"] ["value", "least"] (defScope st_cnumber) := ⟨rfl, rfl, rfl, by decide +kernel, rfl, by decide +kernel, by decide +kernel⟩
theorem ok_cnumber (T : Tx w K mg) : Ok P w K mg base 1 (He.ga K "checked_number") ["value", "least"] spCnumber := by
  obtain ⟨tL, gL⟩ := T.i_LIMIT
  refine ok_of T.d_cnumber sc_cnumber (fun vs H Q E h => ?_) (fun _ _ _ _ _ _ us hl => match us, hl with | [_, _], _ => rfl) (fun cdv A outer s H vs Q E hr h => ?_)
  · obtain ⟨v, l, rfl, _⟩ := h
    rfl
  · obtain ⟨v, l, rfl, h1, h2, k⟩ := h
    refine ⟨_, pss_cons (ps_if (PW.pt (pw_or (pt_cmpR op_lt (pv 0) (pv 1) (nomark _)) (pw_or1 (pt_cmpR op_gt (pv 0) (pe_glob (v := .int 1000000000) rfl gL ⟨_, rfl⟩) (nomark _))))) (pss_one ps_never) pss_nil) (pss_one (ps_ret (pv 0))), ?_⟩
    refine ⟨_, rfl, _, rfl, _, _, rfl, rfl, _, rfl, ?_⟩
    rw [decide_eq_false (show ¬ v < l by omega)]
    refine iteF ?_
    refine ⟨_, rfl, _, _, rfl, rfl, _, rfl, ?_⟩
    rw [decide_eq_false (show ¬ (1000000000 : Int) < v by unfold LIM at h2; omega)]
    refine iteF ?_
    exact ⟨_, rfl, k⟩
end
end FP
/-! FB -/
namespace FP
open PySem PySem.Spec PyProof.Rows L2 FM
theorem sV_at {xs : List Str} {i : Nat} {x : V} (h : (sV xs)[i]? = some x) : ∃ y, xs[i]? = some y ∧ x = .str y ∧ y ∈ xs := by
  rw [List.getElem?_map] at h
  cases e : xs[i]? with
  | none => rw [e] at h; cases h
  | some y =>
    rw [e] at h
    exact ⟨y, rfl, (Option.some.inj h).symm, List.mem_of_getElem? e⟩
theorem sV_len (xs : List Str) : (sV xs).length = xs.length := List.length_map ..
/-- the names seen so far -/
def seenK (xs : List Str) : List (Key × V) := xs.map fun x => ((Sum.inr x : Key), V.bl true)
theorem seenK_in {xs : List Str} {y : Str} (h : y ∈ xs) : valV (seenK xs) (Sum.inr y : Key) = some (.bl true) := by
  induction xs with
  | nil => cases h
  | cons x r ih =>
    show valV (((Sum.inr x : Key), V.bl true) :: seenK r) _ = _
    by_cases e : x = y
    · rw [valV_pos (p := ((Sum.inr x : Key), V.bl true)) (by rw [e])]
    · rw [valV_neg (p := ((Sum.inr x : Key), V.bl true)) (fun q => e (Sum.inr.inj q))]
      exact ih ((List.mem_cons.mp h).resolve_left fun z => e z.symm)
theorem seenK_out {xs : List Str} {y : Str} (h : y ∉ xs) : valV (seenK xs) (Sum.inr y : Key) = none := by
  induction xs with
  | nil => rfl
  | cons x r ih =>
    show valV (((Sum.inr x : Key), V.bl true) :: seenK r) _ = _
    rw [valV_neg (p := ((Sum.inr x : Key), V.bl true)) (fun q => h (by rw [← Sum.inr.inj q]; exact List.mem_cons_self))]
    exact ih fun z => h (List.mem_cons_of_mem _ z)
theorem seenK_put {xs : List Str} {y : Str} (h : y ∉ xs) : putK (seenK xs) (Sum.inr y : Key) (.bl true) = seenK (xs ++ [y]) := by
  rw [putK_new _ (seenK_out h)]
  unfold seenK
  rw [List.map_append]
  rfl
theorem take_next {α : Type} {xs : List α} {i : Nat} {x : α} (h : xs[i]? = some x) : xs.take (i + 1) = xs.take i ++ [x] := by
  rw [List.take_add_one, h]
  rfl
theorem nodup_next {α : Type} {xs : List α} {i : Nat} {x : α} (nd : xs.Nodup) (hi : xs[i]? = some x) : x ∉ xs.take i := by
  intro hm
  obtain ⟨j, hj⟩ := List.mem_iff_getElem?.mp hm
  have hlt : j < i := by
    have := (List.getElem?_eq_some_iff.mp hj).1
    rw [List.length_take] at this
    omega
  rw [List.getElem?_take_of_lt hlt] at hj
  obtain ⟨h1, e1⟩ := List.getElem?_eq_some_iff.mp hj
  obtain ⟨h2, e2⟩ := List.getElem?_eq_some_iff.mp hi
  have := (List.getElem_inj nd).mp (e1.trans e2.symm)
  omega
/-- what roads are made of -/
structure Mapd (ps : List Str) (ws : List Way) (F : Int) : Prop where
  nd : ps.Nodup
  ok : ∀ p ∈ ps, okName p
  few : ps.length ≤ 12
  few2 : ws.length ≤ 60
  on : ∀ e ∈ ws, e.1 ∈ ps ∧ e.2.1 ∈ ps
  len : ∀ e ∈ ws, 1 ≤ e.2.2 ∧ e.2.2 ≤ F
  F0 : 0 ≤ F
  F1 : F ≤ LIM
section
variable {P : Program} {w : World} {K : PySem.W.Frag} {mg : Str → Option Value} {base : Heap}
def spCroads : Sp := fun vs H Q _ => ∃ (a b : Addr) (ps : List Str) (ws : List Way) (F : Int), vs = [.ref a, .ref b] ∧ H a = some (.lst (sV ps)) ∧ LstT wV H b ws ∧ Mapd ps ws F ∧ ∀ H', Same H H' → Q .non H'
theorem sc_croads : FnScope ["places", "ways", "seen", "place", "origin", "goal", "minutes"] ["places", "ways"] (defScope st_croads) := ⟨rfl, rfl, rfl, by decide +kernel, rfl, by decide +kernel, by decide +kernel⟩
theorem ok_croads (T : Tx w K mg) : Ok P w K mg base 2 (He.ga K "check_roads") ["places", "ways"] spCroads := by
  obtain ⟨t1, g1⟩ := T.i_MOST_PLACES
  obtain ⟨t2, g2⟩ := T.i_MOST_WAYS
  obtain ⟨fdN, GN, kN, bN⟩ := ok_cname (P := P) (base := base) T
  obtain ⟨fdC, GC, kC, bC⟩ := ok_cnumber (P := P) (base := base) T
  refine ok_of T.d_croads sc_croads (fun vs H Q E h => ?_) (fun _ _ _ _ _ _ us hl => match us, hl with | [_, _], _ => rfl) (fun cdv A outer s H vs Q E hr h => ?_)
  · obtain ⟨a, b, ps, ws, F, rfl, _⟩ := h
    rfl
  · obtain ⟨a, b, ps, ws, F, rfl, ha, hb, M, k⟩ := h
    have hu := hu_of hr
    refine ⟨_, pss_cons (ps_if (pt_cmpR op_gt (pe_callB call_len_seq (by rfl) T.n_len PySem.boot_len (pa_cons (pv 0) pa_nil)) (pe_glob (v := .int 12) rfl g1 ⟨_, rfl⟩) (nomark _)) (pss_one ps_never) pss_nil)
      (pss_cons (ps_if (pt_cmpR op_gt (pe_callB call_len_seq (by rfl) T.n_len PySem.boot_len (pa_cons (pv 1) pa_nil)) (pe_glob (v := .int 60) rfl g2 ⟨_, rfl⟩) (nomark _)) (pss_one ps_never) pss_nil)
      (pss_cons (ps_set (i := 2) sc_croads.nd rfl (Or.inl rfl) pe_dnewK)
      (pss_cons (ps_for PassesOwn.never rfl (pi_list (pv 0)) (pg_name (i := 3) sc_croads.nd rfl (Or.inl rfl))
        (pss_cons (ps_if (pt_cmp (pc_din hu (pe_call GN hr rfl T.g_checked_name kN bN .nil pass0 (pa_cons (pv 3) pa_nil)) (pv 2))) (pss_one ps_never) pss_nil)
        (pss_one (ps_dput hu (pv 2) (pv 3) pe_bl rfl))))
      (pss_one (ps_for PassesOwn.never rfl (pi_list (pv 1)) (pg_tup rfl (pgs_cons (pg_name (i := 4) sc_croads.nd rfl (Or.inl rfl)) (pgs_cons (pg_name (i := 5) sc_croads.nd rfl (Or.inl rfl)) (pgs_cons (pg_name (i := 6) sc_croads.nd rfl (Or.inl rfl)) pgs_nil))))
        (pss_cons (ps_for PassesOwn.never rfl (pi_list (pe_lst (pa_cons (pv 4) (pa_cons (pv 5) pa_nil)))) (pg_name (i := 3) sc_croads.nd rfl (Or.inl rfl))
          (pss_one (ps_if (pt_cmp (pc_dnotin hu (pv 3) (pv 2))) (pss_one ps_never) pss_nil)))
        (pss_one (ps_expr (pe_call GC hr rfl T.g_checked_number kC bC .nil pass0 (pa_cons (pv 6) (pa_cons pe_int pa_nil))))))))))), ?_⟩
    obtain ⟨wp, hb1, hb2⟩ := id hb
    have lw : (wp.map V.ref).length = ws.length := by rw [List.length_map]; exact hb2.1
    refine ⟨_, rfl, a, _, rfl, .inl (SqL.of ha), _, _, rfl, rfl, _, rfl, ?_⟩
    have e1 : decide ((12 : Int) < ((sV ps).length : Int)) = false := decide_eq_false (by rw [sV_len]; have := M.few; omega)
    show if decide ((12 : Int) < ((sV ps).length : Int)) = true then _ else _
    rw [e1]
    refine iteF ?_
    refine ⟨_, rfl, b, _, rfl, .inl (SqL.of hb1), _, _, rfl, rfl, _, rfl, ?_⟩
    have e2 : decide ((60 : Int) < ((wp.map V.ref).length : Int)) = false := decide_eq_false (by rw [lw]; have := M.few2; omega)
    show if decide ((60 : Int) < ((wp.map V.ref).length : Int)) = true then _ else _
    rw [e2]
    refine iteF ?_
    intro d hd
    refine ⟨_, rfl, a, rfl, ⟨_, SqL.of (same_new hd _ _ ha)⟩, for_list (K := K) (a := a) (xs := sV ps)
      (fun i σ H' => ∃ v, σ = [some (.ref a), some (.ref b), some (.ref d), v, none, none, none] ∧ Same H H' ∧ H' d = some (.dK (seenK (ps.take i))))
      ⟨none, rfl, same_new hd, upd_same⟩ (fun i σ H' _ ⟨_, _, s, _⟩ => SqL.of (s _ _ ha)) ?_ ?_⟩
    · rintro i x σ H1 hi ⟨v, rfl, s1, h1⟩
      obtain ⟨y, hy, rfl, hm⟩ := sV_at hi
      have hout := nodup_next M.nd hy
      have hl := (List.getElem?_eq_some_iff.mp hy).1
      refine ⟨_, rfl, y, rfl, M.ok y hm, _, rfl, d, _, rfl, DGet.k (k := Sum.inr y) h1, _, rfl, ?_⟩
      rw [seenK_out hout]
      refine iteF ?_
      refine ⟨_, rfl, _, rfl, d, _, rfl, DPut.k (k := Sum.inr y) h1 (small1000 (by unfold seenK; rw [List.length_map, List.length_take]; have := M.few; omega)), ?_⟩
      rw [seenK_put hout, ← take_next hy]
      exact ⟨_, rfl, same_mut s1 hd, upd_same⟩
    · rintro σ H1 ⟨v, rfl, s1, h1⟩
      rw [sV_len, List.take_length] at h1
      refine ⟨_, rfl, b, rfl, ⟨_, SqL.of (s1 _ _ hb1)⟩, for_list (K := K) (a := b) (xs := wp.map V.ref)
        (fun i σ H' => ∃ v3 v4 v5 v6, σ = [some (.ref a), some (.ref b), some (.ref d), v3, v4, v5, v6] ∧ Same H1 H')
        ⟨_, none, none, none, rfl, Same.refl _⟩ (fun i σ H' _ ⟨_, _, _, _, _, s⟩ => SqL.of (s _ _ (s1 _ _ hb1))) ?_ ?_⟩
      · rintro i x σ H2 hi ⟨v3, v4, v5, v6, rfl, s2⟩
        obtain ⟨q, e, rfl, hq, he, hm, hT⟩ := hb2.at hi
        have on := M.on e hm
        have ln := M.len e hm
        refine ⟨q, _, rfl, SqT.of (s2 _ _ (s1 _ _ hT)), rfl, _, _, rfl, _, _, rfl, _, _, rfl, rfl, ?_⟩
        refine ⟨_, rfl, _, rfl, by show 2 ≤ sizeLine; decide, fun l hl => ?_⟩
        have s3 := s2.trans (same_new (o := .lst [V.str e.1, V.str e.2.1]) hl)
        refine ⟨l, rfl, ⟨_, SqL.of upd_same⟩, for_list (K := K) (a := l) (xs := [V.str e.1, V.str e.2.1])
          (fun i σ H' => ∃ v3, σ = [some (.ref a), some (.ref b), some (.ref d), v3, some (.str e.1), some (.str e.2.1), some (.int e.2.2)] ∧ Same (upd H2 l (.lst [V.str e.1, V.str e.2.1])) H')
          ⟨_, rfl, Same.refl _⟩ (fun i σ H' _ ⟨_, _, s⟩ => SqL.of (s _ _ upd_same)) ?_ ?_⟩
        · rintro j z σ H3 hj ⟨u, rfl, s4⟩
          have hz : ∃ y, z = .str y ∧ y ∈ ps := by
            match j, hj with
            | 0, hj => exact ⟨e.1, (Option.some.inj hj).symm, on.1⟩
            | 1, hj => exact ⟨e.2.1, (Option.some.inj hj).symm, on.2⟩
            | j + 2, hj => simp at hj
          obtain ⟨y, rfl, hy⟩ := hz
          refine ⟨_, rfl, _, rfl, d, _, rfl, DGet.k (k := Sum.inr y) (s4 _ _ (s3 _ _ h1)), _, rfl, ?_⟩
          rw [seenK_in hy]
          exact iteF ⟨_, rfl, s4⟩
        · rintro σ H3 ⟨u, rfl, s4⟩
          refine ⟨_, rfl, e.2.2, 1, rfl, ln.1, Int.le_trans ln.2 M.F1, ?_⟩
          exact ⟨_, _, _, _, rfl, s3.trans s4⟩
      · rintro σ H2 ⟨v3, v4, v5, v6, rfl, s2⟩
        exact k H2 (s1.trans s2)
end
end FP
/-! FC -/
namespace FP
open PySem PySem.Spec PyProof.Rows L2 FM
/-- no way from e's origin tells anything better -/
def Still (hs : List (Str × Int)) (e : Way) : Prop := ∀ u, lk hs e.1 = some u → ∃ v, lk hs e.2.1 = some v ∧ v ≤ u + e.2.2
theorem merge_one (o : Str) : mergeK [] [((Sum.inr o : Key), V.int 0)] = encH [(o, 0)] := by
  simp [mergeK, putK, encH]
section
variable {P : Program} {w : World} {K : PySem.W.Frag} {mg : Str → Option Value} {base : Heap}
def spHfrom : Sp := fun vs H Q _ => ∃ (o : Str) (b : Addr) (ps : List Str) (ws : List Way) (F : Int), vs = [.str o, .ref b] ∧ LstT wV H b ws ∧ Mapd ps ws F ∧ o ∈ ps ∧
  ∀ (H' : Hp) (d : Addr) (hs : List (Str × Int)), Same H H' → H d = none → H' d = some (.dK (encH hs)) → HS ws o (lk hs) → hs.length ≤ ps.length → Q (.ref d) H'
theorem sc_hfrom : FnScope ["origin", "ways", "found", "lowered", "first", "last", "minutes"] ["origin", "ways"] (defScope st_hfrom) := ⟨rfl, rfl, rfl, by decide +kernel, rfl, by decide +kernel, by decide +kernel⟩
theorem ok_hfrom (T : Tx w K mg) : Ok P w K mg base 1 (He.ga K "heights_from") ["origin", "ways"] spHfrom := by
  refine ok_of T.d_hfrom sc_hfrom (fun vs H Q E h => ?_) (fun _ _ _ _ _ _ us hl => match us, hl with | [_, _], _ => rfl) (fun cdv A outer s H vs Q E hr h => ?_)
  · obtain ⟨o, b, ps, ws, F, rfl, _⟩ := h
    rfl
  · obtain ⟨o, b, ps, ws, F, rfl, hb, M, ho, k⟩ := h
    have hu := hu_of hr
    refine ⟨_, pss_cons (ps_set (i := 2) sc_hfrom.nd rfl (Or.inl rfl) (pe_disp (pps_cons (pv 0) pe_int pps_nil) (by rfl) (by rfl) (fun z => by cases z) (by decide)))
      (pss_cons (ps_set (i := 3) sc_hfrom.nd rfl (Or.inl rfl) pe_bl)
      (pss_cons (ps_while PassesOwn.never (pt_val (pv 3))
        (pss_cons (ps_set (i := 3) sc_hfrom.nd rfl (Or.inl rfl) pe_bl)
        (pss_one (ps_for PassesOwn.never rfl (pi_list (pv 1)) (pg_tup rfl (pgs_cons (pg_name (i := 4) sc_hfrom.nd rfl (Or.inl rfl)) (pgs_cons (pg_name (i := 5) sc_hfrom.nd rfl (Or.inl rfl)) (pgs_cons (pg_name (i := 6) sc_hfrom.nd rfl (Or.inl rfl)) pgs_nil))))
          (pss_one (ps_if (PW.pt (pw_and (pt_cmp (pc_din hu (pv 4) (pv 2))) (pw_and1 (PW.pt (pw_or (pt_cmp (pc_dnotin hu (pv 5) (pv 2)))
              (pw_or1 (pt_cmpR op_lt (pe_op op_add (pe_dget hu (pv 2) (pv 4) (fun _ _ => rfl)) (pv 6)) (pe_dget hu (pv 2) (pv 5) (fun _ _ => rfl)) (nomark _)))))))) 
            (pss_cons (ps_dput hu (pv 2) (pv 5) (pe_op op_add (pe_dget hu (pv 2) (pv 4) (fun _ _ => rfl)) (pv 6)) rfl) (pss_one (ps_set (i := 3) sc_hfrom.nd rfl (Or.inl rfl) pe_bl))) pss_nil))))))
      (pss_one (ps_ret (pv 2))))), ?_⟩
    obtain ⟨wp, hb1, hb2⟩ := id hb
    intro d hd
    refine ⟨_, rfl, upd_same, [((Sum.inr o : Key), V.int 0)], rfl, by show 1 ≤ 15; decide, ?_⟩
    have s1 := same_mut (o := .dK (mergeK [] [((Sum.inr o : Key), V.int 0)])) (same_new (o := .dK []) hd) hd
    refine ⟨fun m σ H' => ∃ (hs : List (Str × Int)) (bl : Bool) (v4 v5 v6 : Option V), σ = [some (.str o), some (.ref b), some (.ref d), some (.bl bl), v4, v5, v6] ∧ Same H H' ∧ H' d = some (.dK (encH hs)) ∧ HW ps ws F o hs ∧
        (bl = false → ∀ e ∈ ws, Still hs e) ∧ m = 2 * mass ps ((F * (ps.length : Int)).toNat + 1) (lk hs) + (if bl = true then 1 else 0),
      ⟨_, [(o, 0)], true, none, none, none, rfl, s1, by rw [upd_same, merge_one], HW.start M.F0 ho, (fun z => nomatch z), rfl⟩, ?_⟩
    rintro m σ H1 ⟨hs, bl, v4, v5, v6, rfl, s2, h2, W, cl, rfl⟩
    refine ⟨_, rfl, bl, rfl, ?_⟩
    cases bl with
    | false =>
      refine iteF ?_
      exact ⟨_, rfl, k H1 d hs s2 hd h2 (W.done (cl rfl)) (Nat.le_trans (Nat.le_add_right _ _) W.len)⟩
    | true =>
      refine iteT ?_
      refine ⟨_, fun σ' H' z => z, ?_⟩
      refine ⟨_, rfl, b, rfl, ⟨_, SqL.of (s2 _ _ hb1)⟩, for_list (K := K) (a := b) (xs := wp.map V.ref)
        (fun i σ H' => ∃ (gs : List (Str × Int)) (bl : Bool) (v4 v5 v6 : Option V), σ = [some (.str o), some (.ref b), some (.ref d), some (.bl bl), v4, v5, v6] ∧ Same H H' ∧ H' d = some (.dK (encH gs)) ∧ HW ps ws F o gs ∧
          (bl = false → gs = hs ∧ ∀ e ∈ ws.take i, Still gs e) ∧ (bl = true → mass ps ((F * (ps.length : Int)).toNat + 1) (lk gs) < mass ps ((F * (ps.length : Int)).toNat + 1) (lk hs)))
        ⟨hs, false, v4, v5, v6, rfl, s2, h2, W, fun _ => ⟨rfl, fun e he => by simp at he⟩, fun z => nomatch z⟩ (fun i σ H' _ ⟨_, _, _, _, _, _, s, _⟩ => SqL.of (s _ _ hb1)) ?_ ?_⟩
      · rintro i x σ H2 hi ⟨gs, bl, v4, v5, v6, rfl, s3, h3, W3, c1, c2⟩
        obtain ⟨q, e, rfl, hq, he, hm, hT⟩ := hb2.at hi
        refine ⟨q, _, rfl, SqT.of (s3 _ _ hT), rfl, _, _, rfl, _, _, rfl, _, _, rfl, rfl, ?_⟩
        have stay : Still gs e → ∃ (gs' : List (Str × Int)) (bl' : Bool) (v4 v5 v6 : Option V), [some (V.str o), some (.ref b), some (.ref d), some (.bl bl), some (.str e.1), some (.str e.2.1), some (.int e.2.2)] = [some (.str o), some (.ref b), some (.ref d), some (.bl bl'), v4, v5, v6] ∧ Same H H2 ∧ H2 d = some (.dK (encH gs')) ∧ HW ps ws F o gs' ∧
            (bl' = false → gs' = hs ∧ ∀ e ∈ ws.take (i + 1), Still gs' e) ∧ (bl' = true → mass ps ((F * (ps.length : Int)).toNat + 1) (lk gs') < mass ps ((F * (ps.length : Int)).toNat + 1) (lk hs)) := fun st =>
          ⟨gs, bl, _, _, _, rfl, s3, h3, W3, fun z => ⟨(c1 z).1, fun e' he' => by
            rw [take_next he] at he'
            rcases List.mem_append.mp he' with q | q
            · exact (c1 z).2 e' q
            · rw [List.mem_singleton.mp q]; exact st⟩, c2⟩
        have lenOk : (encH gs).length < sizeLine := by
          rw [encH_len]
          have := W3.len
          have := M.few
          exact small1000 (by omega)
        have go : ∀ u, lk gs e.1 = some u → (∀ v, lk gs e.2.1 = some v → u + e.2.2 < v) → ∃ (gs' : List (Str × Int)) (bl' : Bool) (v4 v5 v6 : Option V), [some (V.str o), some (.ref b), some (.ref d), some (.bl true), some (.str e.1), some (.str e.2.1), some (.int e.2.2)] = [some (.str o), some (.ref b), some (.ref d), some (.bl bl'), v4, v5, v6] ∧
            Same H (upd H2 d (.dK (putK (encH gs) (Sum.inr e.2.1 : Key) (.int (u + e.2.2))))) ∧ (upd H2 d (.dK (putK (encH gs) (Sum.inr e.2.1 : Key) (.int (u + e.2.2))))) d = some (.dK (encH gs')) ∧ HW ps ws F o gs' ∧
            (bl' = false → gs' = hs ∧ ∀ e ∈ ws.take (i + 1), Still gs' e) ∧ (bl' = true → mass ps ((F * (ps.length : Int)).toNat + 1) (lk gs') < mass ps ((F * (ps.length : Int)).toNat + 1) (lk hs)) := fun u hx hy => by
          obtain ⟨W4, lt⟩ := W3.step M.on M.len M.F0 (x := e.1) (y := e.2.1) (m := e.2.2) hm hx hy
          refine ⟨pt gs e.2.1 (u + e.2.2), true, _, _, _, rfl, same_mut s3 hd, by rw [upd_same, encH_put], W4, fun z => (nomatch z), fun _ => ?_⟩
          cases bl with
          | false =>
            have z := (c1 rfl).1
            rw [← z]
            exact lt
          | true => exact Nat.lt_trans lt (c2 rfl)
        refine ⟨_, rfl, _, rfl, d, _, rfl, DGet.k (k := Sum.inr e.1) h3, _, rfl, ?_⟩
        rw [encH_val]
        cases e1 : lk gs e.1 with
        | none =>
          refine iteF (iteF (stay fun u hx => ?_))
          rw [e1] at hx
          cases hx
        | some u =>
          refine iteT ?_
          refine ⟨_, rfl, _, rfl, d, _, rfl, DGet.k (k := Sum.inr e.2.1) h3, _, rfl, ?_⟩
          rw [encH_val]
          have hval1 : valV (encH gs) (Sum.inr e.1 : Key) = some (.int u) := by rw [encH_val, e1]; rfl
          cases e2 : lk gs e.2.1 with
          | none =>
            refine iteT (iteT ?_)
            refine ⟨_, rfl, _, rfl, d, _, rfl, (by rw [← hval1]; exact DGet.k (k := Sum.inr e.1) h3), _, rfl, _, _, rfl, rfl, ?_⟩
            refine ⟨_, rfl, _, rfl, d, _, rfl, DPut.k (k := Sum.inr e.2.1) h3 lenOk, ?_⟩
            exact go u e1 (fun v hv => by rw [e2] at hv; cases hv)
          | some v =>
            refine iteF ?_
            have hval2 : valV (encH gs) (Sum.inr e.2.1 : Key) = some (.int v) := by rw [encH_val, e2]; rfl
            refine ⟨_, rfl, _, rfl, d, _, rfl, (by rw [← hval1]; exact DGet.k (k := Sum.inr e.1) h3), _, rfl, _, _, rfl, rfl, _, rfl, _, rfl, d, _, rfl, (by rw [← hval2]; exact DGet.k (k := Sum.inr e.2.1) h3), _, _, rfl, rfl, _, rfl, ?_⟩
            by_cases lt : u + e.2.2 < v
            · rw [decide_eq_true lt]
              refine iteT ?_
              refine ⟨_, rfl, _, rfl, d, _, rfl, (by rw [← hval1]; exact DGet.k (k := Sum.inr e.1) h3), _, rfl, _, _, rfl, rfl, ?_⟩
              refine ⟨_, rfl, _, rfl, d, _, rfl, DPut.k (k := Sum.inr e.2.1) h3 lenOk, ?_⟩
              exact go u e1 (fun v' hv => by rw [e2] at hv; cases hv; exact lt)
            · rw [decide_eq_false lt]
              refine iteF (stay fun u' hx => ?_)
              rw [e1] at hx
              cases hx
              exact ⟨v, e2, by omega⟩
      · rintro σ H2 ⟨gs, bl, v4, v5, v6, rfl, s3, h3, W3, c1, c2⟩
        have lw : (wp.map V.ref).length = ws.length := by rw [List.length_map]; exact hb2.1
        rw [lw, List.take_length] at c1
        refine ⟨2 * mass ps ((F * (ps.length : Int)).toNat + 1) (lk gs) + (if bl = true then 1 else 0), ?_, gs, bl, _, _, _, rfl, s3, h3, W3, fun z => (c1 z).2, rfl⟩
        cases bl with
        | false =>
          rw [(c1 rfl).1]
          simp
        | true =>
          have := c2 rfl
          simp
          omega
end
end FP
/-! FD -/
namespace FP
open PySem PySem.Spec PyProof.Rows L2 FM FL
/-- a name or None -/
def optS : Option Str → V
  | none => .non
  | some x => .str x
section
variable {P : Program} {w : World} {K : PySem.W.Frag} {mg : Str → Option Value} {base : Heap}
/-! ### place_ahead -/
def spPahead : Sp := fun vs H Q _ => ∃ (x o : Str) (d b : Addr) (hs : List (Str × Int)) (ws : List Way) (v : Int), vs = [.str x, .ref d, .ref b] ∧ H d = some (.dK (encH hs)) ∧ LstT wV H b ws ∧ HS ws o (lk hs) ∧ lk hs x = some v ∧ x ≠ o ∧
  ∀ (y : Str) (m u : Int), (y, x, m) ∈ ws → lk hs y = some u → u + m = v → Q (.str y) H
theorem sc_pahead : FnScope ["place", "heights", "ways", "ahead", "first", "last", "minutes"] ["place", "heights", "ways"] (defScope st_pahead) := ⟨rfl, rfl, rfl, by decide +kernel, rfl, by decide +kernel, by decide +kernel⟩
theorem ok_pahead (T : Tx w K mg) : Ok P w K mg base 1 (He.ga K "place_ahead") ["place", "heights", "ways"] spPahead := by
  refine ok_of T.d_pahead sc_pahead (fun vs H Q E h => ?_) (fun _ _ _ _ _ _ us hl => match us, hl with | [_, _, _], _ => rfl) (fun cdv A outer s H vs Q E hr h => ?_)
  · obtain ⟨x, o, d, b, hs, ws, v, rfl, _⟩ := h
    rfl
  · obtain ⟨x, o, d, b, hs, ws, v, rfl, hd, hb, S, hx, ne, k⟩ := h
    have hu := hu_of hr
    obtain ⟨wp, hb1, hb2⟩ := id hb
    have hvx : valV (encH hs) (Sum.inr x : Key) = some (.int v) := by rw [encH_val, hx]; rfl
    refine ⟨_, pss_cons (ps_set (i := 3) sc_pahead.nd rfl (Or.inl rfl) pe_non)
      (pss_cons (ps_for PassesOwn.never rfl (pi_list (pv 2)) (pg_tup rfl (pgs_cons (pg_name (i := 4) sc_pahead.nd rfl (Or.inl rfl)) (pgs_cons (pg_name (i := 5) sc_pahead.nd rfl (Or.inl rfl)) (pgs_cons (pg_name (i := 6) sc_pahead.nd rfl (Or.inl rfl)) pgs_nil))))
        (pss_one (ps_if (PW.pt (pw_and (pt_cmpR op_eq (pv 5) (pv 0) (nomark _)) (pw_and (pt_cmp (pc_din hu (pv 4) (pv 1)))
            (pw_and1 (pt_cmpR op_eq (pe_op op_add (pe_dget hu (pv 1) (pv 4) (fun _ _ => rfl)) (pv 6)) (pe_dget hu (pv 1) (pv 0) (fun _ _ => rfl)) (nomark _))))))
          (pss_one (ps_set (i := 3) sc_pahead.nd rfl (Or.inl rfl) (pv 4))) pss_nil)))
      (pss_one (ps_ret (pv 3)))), ?_⟩
    refine ⟨_, rfl, b, rfl, ⟨_, SqL.of hb1⟩, for_list (K := K) (a := b) (xs := wp.map V.ref)
      (fun i σ H' => ∃ (r : Option Str) (v4 v5 v6 : Option V), σ = [some (.str x), some (.ref d), some (.ref b), some (optS r), v4, v5, v6] ∧ H' = H ∧ (∀ y, r = some y → ∃ m u, (y, x, m) ∈ ws ∧ lk hs y = some u ∧ u + m = v) ∧
        (∀ e ∈ ws.take i, e.2.1 = x → ∀ u, lk hs e.1 = some u → u + e.2.2 = v → r ≠ none))
      ⟨none, none, none, none, rfl, rfl, fun y z => (nomatch z), fun e he => by simp at he⟩ (fun i σ H' _ ⟨_, _, _, _, _, e, _⟩ => by rw [e]; exact SqL.of hb1) ?_ ?_⟩
    · rintro i z σ H1 hi ⟨r, v4, v5, v6, rfl, rfl, c1, c2⟩
      obtain ⟨q, e, rfl, hq, he, hm, hT⟩ := hb2.at hi
      have stay : (e.2.1 = x → ∀ u, lk hs e.1 = some u → u + e.2.2 = v → False) → ∃ (r' : Option Str) (v4 v5 v6 : Option V), [some (V.str x), some (.ref d), some (.ref b), some (optS r), some (.str e.1), some (.str e.2.1), some (.int e.2.2)] = [some (.str x), some (.ref d), some (.ref b), some (optS r'), v4, v5, v6] ∧ H1 = H1 ∧
          (∀ y, r' = some y → ∃ m u, (y, x, m) ∈ ws ∧ lk hs y = some u ∧ u + m = v) ∧ (∀ e ∈ ws.take (i + 1), e.2.1 = x → ∀ u, lk hs e.1 = some u → u + e.2.2 = v → r' ≠ none) := fun no =>
        ⟨r, _, _, _, rfl, rfl, c1, fun e' he' h1 u h2 h3 => by
          rw [take_next he] at he'
          rcases List.mem_append.mp he' with q | q
          · exact c2 e' q h1 u h2 h3
          · rw [List.mem_singleton.mp q] at h1 h2 h3
            exact (no h1 u h2 h3).elim⟩
      refine ⟨q, _, rfl, SqT.of hT, rfl, _, _, rfl, _, _, rfl, _, _, rfl, rfl, ?_⟩
      refine ⟨_, rfl, _, rfl, rfl, _, rfl, ?_⟩
      by_cases e1 : e.2.1 = x
      · rw [decide_eq_true (show V.str e.2.1 = V.str x by rw [e1])]
        refine iteT ?_
        refine ⟨_, rfl, _, rfl, d, _, rfl, DGet.k (k := Sum.inr e.1) hd, _, rfl, ?_⟩
        rw [encH_val]
        cases e2 : lk hs e.1 with
        | none =>
          refine iteF (iteF (stay fun _ u hu' _ => ?_))
          rw [e2] at hu'
          cases hu'
        | some u =>
          refine iteT ?_
          have hv1 : valV (encH hs) (Sum.inr e.1 : Key) = some (.int u) := by rw [encH_val, e2]; rfl
          refine ⟨_, rfl, _, rfl, d, _, rfl, (by rw [← hv1]; exact DGet.k (k := Sum.inr e.1) hd), _, rfl, _, _, rfl, rfl, _, rfl, _, rfl, d, _, rfl, (by rw [← hvx]; exact DGet.k (k := Sum.inr x) hd), rfl, _, rfl, ?_⟩
          by_cases e3 : u + e.2.2 = v
          · rw [decide_eq_true (show V.int (u + e.2.2) = V.int v by rw [e3])]
            refine iteT ⟨_, rfl, ?_⟩
            refine ⟨some e.1, _, _, _, rfl, rfl, fun y hy => ?_, fun _ _ _ _ _ _ z => nomatch z⟩
            cases hy
            refine ⟨e.2.2, u, ?_, e2, e3⟩
            rw [← e1]
            exact hm
          · rw [decide_eq_false (show ¬ V.int (u + e.2.2) = V.int v from fun z => e3 (V.int.inj z))]
            refine iteF (stay fun _ u' hu' h3 => ?_)
            rw [e2] at hu'
            cases hu'
            exact e3 h3
      · rw [decide_eq_false (show ¬ V.str e.2.1 = V.str x from fun z => e1 (V.str.inj z))]
        exact iteF (iteF (stay fun z _ _ _ => e1 z))
    · rintro σ H1 ⟨r, v4, v5, v6, rfl, rfl, c1, c2⟩
      have lw : (wp.map V.ref).length = ws.length := by rw [List.length_map]; exact hb2.1
      rw [lw, List.take_length] at c2
      obtain ⟨y, m, u, he, hy, hv⟩ := S.pred hx ne
      cases r with
      | none => exact absurd rfl (c2 _ he rfl u hy hv)
      | some z =>
        obtain ⟨m', u', g1, g2, g3⟩ := c1 z rfl
        exact ⟨_, rfl, k z m' u' g1 g2 g3⟩
end
/-! ### Roads -/
def rF (t l r : Addr) : List (Str × V) := putF "reached" (.ref r) (putF "lanes" (.ref l) (putF "towns" (.ref t) []))
theorem n_rl : ¬ (("reached" : Str) = "lanes") := by decide +kernel
theorem n_rt : ¬ (("reached" : Str) = "towns") := by decide +kernel
theorem n_lt : ¬ (("lanes" : Str) = "towns") := by decide +kernel
theorem n_lr : ¬ (("lanes" : Str) = "reached") := by decide +kernel
theorem n_tr : ¬ (("towns" : Str) = "reached") := by decide +kernel
theorem n_tl : ¬ (("towns" : Str) = "lanes") := by decide +kernel
theorem rF_t (t l r : Addr) : (rF t l r).lookup ("towns" : Str) = some (.ref t) := by
  unfold rF
  rw [lookup_putF, if_neg n_tr, lookup_putF, if_neg n_tl, lookup_putF, if_pos rfl]
theorem rF_l (t l r : Addr) : (rF t l r).lookup ("lanes" : Str) = some (.ref l) := by
  unfold rF
  rw [lookup_putF, if_neg n_lr, lookup_putF, if_pos rfl]
theorem rF_r (t l r : Addr) : (rF t l r).lookup ("reached" : Str) = some (.ref r) := by
  unfold rF
  rw [lookup_putF, if_pos rfl]
theorem rF_no (t l r : Addr) {m : Str} (h1 : ¬ m = "reached") (h2 : ¬ m = "lanes") (h3 : ¬ m = "towns") : (rF t l r).lookup m = none := by
  unfold rF
  rw [lookup_putF, if_neg h1, lookup_putF, if_neg h2, lookup_putF, if_neg h3]
  rfl
/-- roads stand at p: hh o are the heights of the place o -/
structure RoadsAt (C : Addr) (H : Hp) (p : Addr) (ps : List Str) (ws : List Way) (hh : Str → List (Str × Int)) : Prop where
  ex : ∃ (dx t l r : Addr) (kvs : List (Key × V)), H p = some (.ins C dx (rF t l r)) ∧ H t = some (.lst (sV ps)) ∧ LstT wV H l ws ∧ H r = some (.dK kvs) ∧
    (∀ x ∈ ps, ∃ d, valV kvs (Sum.inr x : Key) = some (.ref d) ∧ H d = some (.dK (encH (hh x))))
  hs : ∀ x ∈ ps, HS ws x (lk (hh x)) ∧ (hh x).length ≤ ps.length
theorem RoadsAt.mono {C : Addr} {H H' : Hp} {p : Addr} {ps : List Str} {ws : List Way} {hh : Str → List (Str × Int)} (s : Same H H') (R : RoadsAt C H p ps ws hh) : RoadsAt C H' p ps ws hh := by
  obtain ⟨⟨dx, t, l, r, kvs, h1, h2, h3, h4, h5⟩, h6⟩ := R
  refine ⟨⟨dx, t, l, r, kvs, s _ _ h1, s _ _ h2, h3.mono s, s _ _ h4, fun x hx => ?_⟩, h6⟩
  obtain ⟨d, a, b⟩ := h5 x hx
  exact ⟨d, a, s _ _ b⟩
end FP
/-! FE -/
namespace FP
open PySem PySem.Spec PyProof.Rows L2 FM FL
/-- the walk back: from the list's head by ways to g, each as long as the heights say -/
inductive Pth (ws : List Way) (h : Str → Option Int) (g : Str) : List Str → Prop
  | one {v : Int} : h g = some v → Pth ws h g [g]
  | cons {y z : Str} {r : List Str} {m u v : Int} : Pth ws h g (z :: r) → (y, z, m) ∈ ws → h y = some u → h z = some v → u + m = v → Pth ws h g (y :: z :: r)
theorem putF_2 (t l : Addr) : (putF "lanes" (.ref l) (putF "towns" (.ref t) []) : List (Str × V)).length ≤ 2 := by
  show (if ("towns" : Str) = "lanes" then _ else _ : List (Str × V)).length ≤ 2
  rw [if_neg n_tl]
  exact Nat.le_refl _
section
variable {P : Program} {w : World} {K : PySem.W.Frag} {mg : Str → Option Value} {base : Heap}
def spRinit (C : Addr) : Sp := fun vs H Q _ => ∃ (H0 : Hp) (p dx a b : Addr) (ps : List Str) (ws : List Way) (F : Int), vs = [.ref p, .ref a, .ref b] ∧ Same H0 H ∧ H0 p = none ∧ H p = some (.ins C dx []) ∧ H0 a = some (.lst (sV ps)) ∧ LstT wV H0 b ws ∧ Mapd ps ws F ∧
  ∀ (H' : Hp) (hh : Str → List (Str × Int)), Same H0 H' → RoadsAt C H' p ps ws hh → Q .non H'
theorem sc_rinit : FnScope ["self", "places", "ways", "place"] ["self", "places", "ways"] (defScope st_rinit) := ⟨rfl, rfl, rfl, by decide +kernel, rfl, by decide +kernel, by decide +kernel⟩
theorem ok_rinit (T : Tx w K mg) : Ok P w K mg base 3 (He.ma K (He.ga K "Roads") "__init__") ["self", "places", "ways"] (spRinit (He.ga K "Roads")) := by
  obtain ⟨fdR, GR, kR, bR⟩ := ok_croads (P := P) (base := base) T
  obtain ⟨fdH, GH, kH, bH⟩ := ok_hfrom (P := P) (base := base) T
  refine ok_of T.d_rinit sc_rinit (fun vs H Q E h => ?_) (fun _ _ _ _ _ _ us hl => match us, hl with | [_, _, _], _ => rfl) (fun cdv A outer s H vs Q E hr h => ?_)
  · obtain ⟨H0, p, dx, a, b, ps, ws, F, rfl, _⟩ := h
    rfl
  · obtain ⟨H0, p, dx, a, b, ps, ws, F, rfl, s0, p0, hp, ha, hb, M, k⟩ := h
    have hu := hu_of hr
    refine ⟨_, pss_cons (ps_expr (pe_call GR hr rfl T.g_check_roads kR bR .nil pass0 (pa_cons (pv 1) (pa_cons (pv 2) pa_nil))))
      (pss_cons (ps_fld (pv 0) (pe_callTy call_list_of (by rfl) T.n_list (by decide +kernel) (pa_cons (pv 1) pa_nil)) rfl)
      (pss_cons (ps_fld (pv 0) (pe_callTy call_list_of (by rfl) T.n_list (by decide +kernel) (pa_cons (pv 2) pa_nil)) rfl)
      (pss_cons (ps_fld (pv 0) pe_dnewK rfl)
      (pss_one (ps_for PassesOwn.never rfl (pi_list (pe_fld (pv 0) rfl)) (pg_name (i := 3) sc_rinit.nd rfl (Or.inl rfl))
        (pss_one (ps_dput hu (pe_fld (pv 0) rfl) (pv 3) (pe_call GH (hr.mono (by decide)) rfl T.g_heights_from kH bH .nil pass0 (pa_cons (pv 3) (pa_cons (pe_fld (pv 0) rfl) pa_nil))) rfl))))))), ?_⟩
    refine ⟨_, rfl, _, rfl, a, b, ps, ws, F, rfl, s0 _ _ ha, hb.mono s0, M, fun H1 s1 => ?_⟩
    have s01 := s0.trans s1
    have hp1 := s1 _ _ hp
    -- self.towns
    refine ⟨_, rfl, a, _, rfl, .inl (SqL.of (s01 _ _ ha)), fun t ht => ?_⟩
    have npt : p ≠ t := ne_of_none hp1 ht
    have t0 : H0 t = none := s01.free ht
    refine ⟨_, rfl, p, _, dx, [], rfl, (upd_ne npt).trans hp1, T.c_Roads, T.a_Roads_towns, by show 0 < 1000; decide, ?_⟩
    have s2 : Same H0 (upd (upd H1 t (.lst (sV ps))) p (.ins (He.ga K "Roads") dx (putF "towns" (.ref t) []))) := same_mut (same_mut s01 t0) p0
    have h2p : (upd (upd H1 t (.lst (sV ps))) p (.ins (He.ga K "Roads") dx (putF "towns" (.ref t) []))) p = some (.ins (He.ga K "Roads") dx (putF "towns" (.ref t) [])) := upd_same
    have h2t : (upd (upd H1 t (.lst (sV ps))) p (.ins (He.ga K "Roads") dx (putF "towns" (.ref t) []))) t = some (.lst (sV ps)) := by rw [upd_ne npt.symm, upd_same]
    revert s2 h2p h2t
    generalize (upd (upd H1 t (.lst (sV ps))) p (.ins (He.ga K "Roads") dx (putF "towns" (.ref t) []))) = H2
    intro s2 h2p h2t
    -- self.lanes
    obtain ⟨wp, hb1, hb2⟩ := id hb
    refine ⟨_, rfl, b, _, rfl, .inl (SqL.of (s2 _ _ hb1)), fun l hl => ?_⟩
    have npl : p ≠ l := ne_of_none h2p hl
    have ntl : t ≠ l := ne_of_none h2t hl
    have l0 : H0 l = none := s2.free hl
    refine ⟨_, rfl, p, _, dx, _, rfl, (upd_ne npl).trans h2p, T.c_Roads, T.a_Roads_lanes, by show 1 < 1000; decide, ?_⟩
    have s3 : Same H0 (upd (upd H2 l (.lst (wp.map V.ref))) p (.ins (He.ga K "Roads") dx (putF "lanes" (.ref l) (putF "towns" (.ref t) [])))) := same_mut (same_mut s2 l0) p0
    have h3p : (upd (upd H2 l (.lst (wp.map V.ref))) p (.ins (He.ga K "Roads") dx (putF "lanes" (.ref l) (putF "towns" (.ref t) [])))) p = some (.ins (He.ga K "Roads") dx (putF "lanes" (.ref l) (putF "towns" (.ref t) []))) := upd_same
    have h3t : (upd (upd H2 l (.lst (wp.map V.ref))) p (.ins (He.ga K "Roads") dx (putF "lanes" (.ref l) (putF "towns" (.ref t) [])))) t = some (.lst (sV ps)) := by rw [upd_ne npt.symm, upd_ne ntl]; exact h2t
    have h3l : (upd (upd H2 l (.lst (wp.map V.ref))) p (.ins (He.ga K "Roads") dx (putF "lanes" (.ref l) (putF "towns" (.ref t) [])))) l = some (.lst (wp.map V.ref)) := by rw [upd_ne npl.symm, upd_same]
    revert s3 h3p h3t h3l
    generalize (upd (upd H2 l (.lst (wp.map V.ref))) p (.ins (He.ga K "Roads") dx (putF "lanes" (.ref l) (putF "towns" (.ref t) [])))) = H3
    intro s3 h3p h3t h3l
    -- self.reached
    intro r hrn
    have npr : p ≠ r := ne_of_none h3p hrn
    have ntr : t ≠ r := ne_of_none h3t hrn
    have nlr : l ≠ r := ne_of_none h3l hrn
    have r0 : H0 r = none := s3.free hrn
    refine ⟨_, rfl, p, _, dx, _, rfl, (upd_ne npr).trans h3p, T.c_Roads, T.a_Roads_reached, Nat.lt_of_le_of_lt (putF_2 t l) (by decide), ?_⟩
    have s4 : Same H0 (upd (upd H3 r (.dK [])) p (.ins (He.ga K "Roads") dx (putF "reached" (.ref r) (putF "lanes" (.ref l) (putF "towns" (.ref t) []))))) := same_mut (same_mut s3 r0) p0
    have h4p : (upd (upd H3 r (.dK [])) p (.ins (He.ga K "Roads") dx (putF "reached" (.ref r) (putF "lanes" (.ref l) (putF "towns" (.ref t) []))))) p = some (.ins (He.ga K "Roads") dx (putF "reached" (.ref r) (putF "lanes" (.ref l) (putF "towns" (.ref t) [])))) := upd_same
    have h4t : (upd (upd H3 r (.dK [])) p (.ins (He.ga K "Roads") dx (putF "reached" (.ref r) (putF "lanes" (.ref l) (putF "towns" (.ref t) []))))) t = some (.lst (sV ps)) := by rw [upd_ne npt.symm, upd_ne ntr]; exact h3t
    have h4l : (upd (upd H3 r (.dK [])) p (.ins (He.ga K "Roads") dx (putF "reached" (.ref r) (putF "lanes" (.ref l) (putF "towns" (.ref t) []))))) l = some (.lst (wp.map V.ref)) := by rw [upd_ne npl.symm, upd_ne nlr]; exact h3l
    have h4r : (upd (upd H3 r (.dK [])) p (.ins (He.ga K "Roads") dx (putF "reached" (.ref r) (putF "lanes" (.ref l) (putF "towns" (.ref t) []))))) r = some (.dK []) := by rw [upd_ne npr.symm, upd_same]
    revert s4 h4p h4t h4l h4r
    generalize (upd (upd H3 r (.dK [])) p (.ins (He.ga K "Roads") dx (putF "reached" (.ref r) (putF "lanes" (.ref l) (putF "towns" (.ref t) []))))) = H4
    intro s4 h4p' h4t h4l h4r
    have h4p : H4 p = some (.ins (He.ga K "Roads") dx (rF t l r)) := h4p'
    refine ⟨_, rfl, p, _, dx, _, _, rfl, h4p, T.c_Roads, T.a_Roads_towns, rF_t t l r, t, rfl, ⟨_, SqL.of h4t⟩, for_list (K := K) (a := t) (xs := sV ps)
      (fun i σ H' => ∃ (v : Option V) (kvs : List (Key × V)) (hh : Str → List (Str × Int)), σ = [some (.ref p), some (.ref a), some (.ref b), v] ∧ Same H0 H' ∧ H' p = some (.ins (He.ga K "Roads") dx (rF t l r)) ∧ H' t = some (.lst (sV ps)) ∧ H' l = some (.lst (wp.map V.ref)) ∧ H' r = some (.dK kvs) ∧
        kvs.length ≤ i ∧ ∀ x ∈ ps.take i, (HS ws x (lk (hh x)) ∧ (hh x).length ≤ ps.length) ∧ ∃ d, valV kvs (Sum.inr x : Key) = some (.ref d) ∧ H' d = some (.dK (encH (hh x))))
      ⟨none, [], fun _ => [], rfl, s4, h4p, h4t, h4l, h4r, Nat.le_refl _, fun x hx => by simp at hx⟩ (fun i σ H' _ ⟨_, _, _, _, _, _, e, _⟩ => SqL.of e) ?_ ?_⟩
    · rintro i x σ H5 hi ⟨v, kvs, hh, rfl, s5, h5p, h5t, h5l, h5r, len, all⟩
      obtain ⟨y, hy, rfl, hm⟩ := sV_at hi
      have hil := (List.getElem?_eq_some_iff.mp hy).1
      have hb5 : LstT wV H5 l ws := ⟨wp, h5l, hb2.mono s5⟩
      refine ⟨_, rfl, _, rfl, p, _, dx, _, _, rfl, h5p, T.c_Roads, T.a_Roads_lanes, rF_l t l r, y, l, ps, ws, F, rfl, hb5, M, hm, fun H6 d hs s6 fd h6d S Sl => ?_⟩
      refine ⟨_, rfl, p, _, dx, _, _, rfl, s6 _ _ h5p, T.c_Roads, T.a_Roads_reached, rF_r t l r, _, rfl, r, _, rfl, DPut.k (k := Sum.inr y) (s6 _ _ h5r) (small1000 (by have := M.few; omega)), ?_⟩
      have npr' : p ≠ r := npr
      have ndr : d ≠ r := by
        intro e
        rw [e, h5r] at fd
        cases fd
      refine ⟨_, putK kvs (Sum.inr y) (.ref d), fun x => if x = y then hs else hh x, rfl, same_mut (s5.trans s6) r0, (upd_ne npr).trans (s6 _ _ h5p), (upd_ne ntr).trans (s6 _ _ h5t), (upd_ne nlr).trans (s6 _ _ h5l), upd_same, ?_, fun x hx => ?_⟩
      · unfold putK
        split
        · rw [List.length_map]; omega
        · rw [List.length_append]; show kvs.length + 1 ≤ i + 1; omega
      · show (HS ws x (lk (if x = y then hs else hh x)) ∧ (if x = y then hs else hh x).length ≤ ps.length) ∧ ∃ d', valV (putK kvs (Sum.inr y : Key) (.ref d)) (Sum.inr x) = some (.ref d') ∧ (upd H6 r (.dK (putK kvs (Sum.inr y : Key) (.ref d)))) d' = some (.dK (encH (if x = y then hs else hh x)))
        rw [valV_put]
        by_cases e : x = y
        · rw [if_pos e, if_pos (by rw [e])]
          refine ⟨⟨by rw [e]; exact S, Sl⟩, d, rfl, ?_⟩
          rw [upd_ne ndr]
          exact h6d
        · rw [if_neg e, if_neg (fun z => e (Sum.inr.inj z))]
          rw [take_next hy] at hx
          rcases List.mem_append.mp hx with q | q
          · obtain ⟨g1, d', g2, g3⟩ := all x q
            refine ⟨g1, d', g2, ?_⟩
            have ne : d' ≠ r := by
              intro e'
              -- the dict of heights is no other than r only if the heights' dict were the table itself
              rw [e', h5r] at g3
              have g4 := HO.dK.inj (Option.some.inj g3)
              rw [g4] at g2
              rw [encH_val] at g2
              cases z : lk (hh x) x with
              | none => rw [z] at g2; cases g2
              | some n => rw [z] at g2; cases g2
            rw [upd_ne ne]
            exact s6 _ _ g3
          · exact absurd (List.mem_singleton.mp q) e
    · rintro σ H5 ⟨v, kvs, hh, rfl, s5, h5p, h5t, h5l, h5r, len, all⟩
      rw [sV_len, List.take_length] at all
      exact k H5 hh s5 ⟨⟨dx, t, l, r, kvs, h5p, h5t, ⟨wp, h5l, hb2.mono s5⟩, h5r, fun x hx => (all x hx).2⟩, fun x hx => (all x hx).1⟩
end
end FP
/-! FF -/
namespace FP
open PySem PySem.Spec PyProof.Rows L2 FM FL
theorem Pth.ne {ws : List Way} {h : Str → Option Int} {g : Str} {ys : List Str} (p : Pth ws h g ys) : ys ≠ [] := by
  cases p <;> simp
section
variable {P : Program} {w : World} {K : PySem.W.Frag} {mg : Str → Option Value} {base : Heap}
def spRlength (C : Addr) : Sp := fun vs H Q _ => ∃ (p : Addr) (o g : Str) (ps : List Str) (ws : List Way) (hh : Str → List (Str × Int)), vs = [.ref p, .str o, .str g] ∧ RoadsAt C H p ps ws hh ∧ o ∈ ps ∧ g ∈ ps ∧
  ∀ H', Same H H' → Q (optV (lk (hh o) g)) H'
theorem sc_rlength : FnScope ["self", "origin", "goal", "place"] ["self", "origin", "goal"] (defScope st_rlength) := ⟨rfl, rfl, rfl, by decide +kernel, rfl, by decide +kernel, by decide +kernel⟩
theorem ok_rlength (T : Tx w K mg) : Ok P w K mg base 1 (He.ma K (He.ga K "Roads") "length") ["self", "origin", "goal"] (spRlength (He.ga K "Roads")) := by
  refine ok_of T.d_rlength sc_rlength (fun vs H Q E h => ?_) (fun _ _ _ _ _ _ us hl => match us, hl with | [_, _, _], _ => rfl) (fun cdv A outer s H vs Q E hr h => ?_)
  · obtain ⟨p, o, g, ps, ws, hh, rfl, _⟩ := h
    rfl
  · obtain ⟨p, o, g, ps, ws, hh, rfl, R, ho, hg, k⟩ := h
    have hu := hu_of hr
    obtain ⟨⟨dx, t, l, r, kvs, hp, ht, hl, hrr, hd⟩, hs⟩ := R
    refine ⟨_, pss_cons (ps_for PassesOwn.never rfl (pi_list (pe_lst (pa_cons (pv 1) (pa_cons (pv 2) pa_nil)))) (pg_name (i := 3) sc_rlength.nd rfl (Or.inl rfl))
        (pss_one (ps_if (pt_cmp (pc_dnotin hu (pv 3) (pe_fld (pv 0) rfl))) (pss_one ps_never) pss_nil)))
      (pss_one (ps_ret (pe_dget1 hu (pe_dget hu (pe_fld (pv 0) rfl) (pv 1) (fun _ _ => rfl)) (pv 2) ⟨rfl, rfl, rfl, rfl⟩))), ?_⟩
    refine ⟨_, rfl, _, rfl, by show 2 ≤ sizeLine; decide, fun q hq => ?_⟩
    have s1 : Same H (upd H q (.lst [V.str o, V.str g])) := same_new hq
    refine ⟨q, rfl, ⟨_, SqL.of upd_same⟩, for_list (K := K) (a := q) (xs := [V.str o, V.str g])
      (fun i σ H' => ∃ v, σ = [some (.ref p), some (.str o), some (.str g), v] ∧ Same (upd H q (.lst [V.str o, V.str g])) H') ⟨none, rfl, Same.refl _⟩ (fun i σ H' _ ⟨_, _, s⟩ => SqL.of (s _ _ upd_same)) ?_ ?_⟩
    · rintro i x σ H1 hi ⟨v, rfl, s2⟩
      have hx : ∃ y, x = .str y ∧ y ∈ ps := by
        match i, hi with
        | 0, hi => exact ⟨o, (Option.some.inj hi).symm, ho⟩
        | 1, hi => exact ⟨g, (Option.some.inj hi).symm, hg⟩
        | i + 2, hi => simp at hi
      obtain ⟨y, rfl, hy⟩ := hx
      obtain ⟨d, hv, _⟩ := hd y hy
      have s := s1.trans s2
      refine ⟨_, rfl, _, rfl, p, _, dx, _, _, rfl, s _ _ hp, T.c_Roads, T.a_Roads_reached, rF_r t l r, r, _, rfl, DGet.k (k := Sum.inr y) (s _ _ hrr), _, rfl, ?_⟩
      rw [hv]
      exact iteF ⟨_, rfl, s2⟩
    · rintro σ H1 ⟨v, rfl, s2⟩
      have s := s1.trans s2
      obtain ⟨d, hv, hdd⟩ := hd o ho
      refine ⟨_, rfl, p, _, dx, _, _, rfl, s _ _ hp, T.c_Roads, T.a_Roads_reached, rF_r t l r, _, rfl, r, _, rfl, (by rw [← hv]; exact DGet.k (k := Sum.inr o) (s _ _ hrr)), d, rfl, .inl ⟨_, .inl (s _ _ hdd)⟩, _, rfl, _, DGet.k (k := Sum.inr g) (s _ _ hdd), ?_⟩
      rw [encH_val, getD_optV]
      exact k H1 s
def spRheights (C : Addr) : Sp := fun vs H Q _ => ∃ (p : Addr) (o : Str) (ps : List Str) (ws : List Way) (hh : Str → List (Str × Int)), vs = [.ref p, .str o] ∧ RoadsAt C H p ps ws hh ∧ o ∈ ps ∧
  ∀ H' d, Same H H' → H d = none → H' d = some (.dK (encH (hh o))) → Q (.ref d) H'
theorem sc_rheights : FnScope ["self", "origin"] ["self", "origin"] (defScope st_rheights) := ⟨rfl, rfl, rfl, by decide +kernel, rfl, by decide +kernel, by decide +kernel⟩
theorem ok_rheights (T : Tx w K mg) : Ok P w K mg base 1 (He.ma K (He.ga K "Roads") "heights") ["self", "origin"] (spRheights (He.ga K "Roads")) := by
  refine ok_of T.d_rheights sc_rheights (fun vs H Q E h => ?_) (fun _ _ _ _ _ _ us hl => match us, hl with | [_, _], _ => rfl) (fun cdv A outer s H vs Q E hr h => ?_)
  · obtain ⟨p, o, ps, ws, hh, rfl, _⟩ := h
    rfl
  · obtain ⟨p, o, ps, ws, hh, rfl, R, ho, k⟩ := h
    have hu := hu_of hr
    obtain ⟨⟨dx, t, l, r, kvs, hp, ht, hl, hrr, hd⟩, hs⟩ := R
    obtain ⟨d, hv, hdd⟩ := hd o ho
    refine ⟨_, pss_cons (ps_if (pt_cmp (pc_dnotin hu (pv 1) (pe_fld (pv 0) rfl))) (pss_one ps_never) pss_nil)
      (pss_one (ps_ret (pe_callTy call_dictD (by rfl) T.n_dict (by decide +kernel) (pa_cons (pe_dget hu (pe_fld (pv 0) rfl) (pv 1) (fun _ _ => rfl)) pa_nil)))), ?_⟩
    refine ⟨_, rfl, _, rfl, p, _, dx, _, _, rfl, hp, T.c_Roads, T.a_Roads_reached, rF_r t l r, r, _, rfl, DGet.k (k := Sum.inr o) hrr, _, rfl, ?_⟩
    rw [hv]
    refine iteF ?_
    refine ⟨_, rfl, p, _, dx, _, _, rfl, hp, T.c_Roads, T.a_Roads_reached, rF_r t l r, _, rfl, r, _, rfl, (by rw [← hv]; exact DGet.k (k := Sum.inr o) hrr), d, _, rfl, .inl hdd, fun q hq => ?_⟩
    exact k _ q (same_new hq) hq upd_same
def spRway (C : Addr) : Sp := fun vs H Q _ => ∃ (p : Addr) (o g : Str) (ps : List Str) (ws : List Way) (hh : Str → List (Str × Int)) (v F : Int), vs = [.ref p, .str o, .str g] ∧ RoadsAt C H p ps ws hh ∧ Mapd ps ws F ∧ o ∈ ps ∧ g ∈ ps ∧ lk (hh o) g = some v ∧
  ∀ H' l r, Same H H' → H l = none → H' l = some (.lst (sV (o :: r))) → Pth ws (lk (hh o)) g (o :: r) → (o :: r).length ≤ ps.length → Q (.ref l) H'
theorem sc_rway : FnScope ["self", "origin", "goal", "places"] ["self", "origin", "goal"] (defScope st_rway) := ⟨rfl, rfl, rfl, by decide +kernel, rfl, by decide +kernel, by decide +kernel⟩
theorem ok_rway (T : Tx w K mg) : Ok P w K mg base 2 (He.ma K (He.ga K "Roads") "way") ["self", "origin", "goal"] (spRway (He.ga K "Roads")) := by
  obtain ⟨fdL, GL, kL, bL⟩ := ok_rlength (P := P) (base := base) T
  obtain ⟨fdA, GA, kA, bA⟩ := ok_pahead (P := P) (base := base) T
  refine ok_of T.d_rway sc_rway (fun vs H Q E h => ?_) (fun _ _ _ _ _ _ us hl => match us, hl with | [_, _, _], _ => rfl) (fun cdv A outer s H vs Q E hr h => ?_)
  · obtain ⟨p, o, g, ps, ws, hh, v, F, rfl, _⟩ := h
    rfl
  · obtain ⟨p, o, g, ps, ws, hh, v, F, rfl, R, M, ho, hg, hv, k⟩ := h
    have hu := hu_of hr
    have R' := R
    obtain ⟨⟨dx, t, ll, r, kvs, hp, ht, hl, hrr, hd⟩, hs⟩ := R'
    obtain ⟨d, hvd, hdd⟩ := hd o ho
    have S := (hs o ho).1
    refine ⟨_, pss_cons (ps_if (pt_cmpR op_isN (pe_meth (pv 0) T.c_Roads T.m_Roads_length GL hr bL .nil pass0 (pa_cons (pv 1) (pa_cons (pv 2) pa_nil))) pe_non (nomark _)) (pss_one (ps_ret pe_non)) pss_nil)
      (pss_cons (ps_set (i := 3) sc_rway.nd rfl (Or.inl rfl) (pe_lst (pa_cons (pv 2) pa_nil)))
      (pss_cons (ps_while PassesOwn.never (pt_cmpR op_ne (pe_ix ix_list (pv 3) (pe_un un_neg pe_int) (fun _ _ => rfl)) (pv 1) (nomark _))
        (pss_one (ps_expr (pe_bm PySem.F.plainAttrs_list PySem.F.slot_list_append PySem.F.type_list_append mt_append (pv 3)
          (pa_cons (pe_call GA hr rfl T.g_place_ahead kA bA .nil pass0 (pa_cons (pe_ix ix_list (pv 3) (pe_un un_neg pe_int) (fun _ _ => rfl)) (pa_cons (pe_dget hu (pe_fld (pv 0) rfl) (pv 1) (fun _ _ => rfl)) (pa_cons (pe_fld (pv 0) rfl) pa_nil)))) pa_nil)))))
      (pss_one (ps_ret (pe_lstRev rfl (by rfl) T.n_list (by rfl) T.n_reversed (pv 3)))))), ?_⟩
    refine ⟨_, rfl, p, dx, _, rfl, hp, rF_no t ll r (by decide +kernel) (by decide +kernel) (by decide +kernel), _, rfl, _, rfl, p, o, g, ps, ws, hh, rfl, R, ho, hg, fun H1 s1 => ?_⟩
    refine ⟨rfl, _, rfl, ?_⟩
    rw [hv]
    refine iteF ?_
    refine ⟨_, rfl, by show 1 ≤ sizeLine; decide, fun l hln => ?_⟩
    have l0 : H l = none := s1.free hln
    have s2 : Same H (upd H1 l (.lst [V.str g])) := same_mut s1 l0
    refine ⟨fun m σ H' => ∃ (y : Str) (zs : List Str) (u : Int), σ = [some (.ref p), some (.str o), some (.str g), some (.ref l)] ∧ Same H H' ∧ H' l = some (.lst (sV (y :: zs).reverse)) ∧ Pth ws (lk (hh o)) g (y :: zs) ∧ lk (hh o) y = some u ∧
        (y :: zs).length + ps.countP (low (lk (hh o)) u) ≤ ps.length ∧ m = u.toNat,
      ⟨_, g, [], v, rfl, s2, by rw [upd_same]; rfl, .one hv, hv, ?_, rfl⟩, ?_⟩
    · have := countP_len (p := low (lk (hh o)) v) hg (low_not hv (Int.le_refl _))
      show 1 + _ ≤ _
      omega
    rintro m σ H3 ⟨y, zs, u, rfl, s3, h3l, pth, hy, few, rfl⟩
    have hlast : atI (sV (y :: zs).reverse) (-1) = some (.str y) := by
      have e : sV (y :: zs).reverse = sV zs.reverse ++ [V.str y] := by simp [sV]
      rw [e]
      exact atI_last _ _
    refine ⟨_, rfl, _, rfl, l, _, _, _, rfl, rfl, SqL.of h3l, hlast, _, rfl, rfl, _, rfl, ?_⟩
    by_cases e : y = o
    · rw [decide_eq_true (show V.str y = V.str o by rw [e])]
      refine iteF ?_
      refine ⟨_, rfl, l, _, rfl, SqL.of h3l, fun q hq => ?_⟩
      subst e
      refine k _ q zs (s3.trans (same_new hq)) (s3.free hq) ?_ pth (by omega)
      rw [upd_same]
      simp [sV]
    · rw [decide_eq_false (show ¬ V.str y = V.str o from fun z => e (V.str.inj z))]
      refine iteT ?_
      refine ⟨_, fun σ' H' z => z, ?_⟩
      have hlen : (sV (y :: zs).reverse).length < sizeLine := by
        rw [sV_len, List.length_reverse]
        have := M.few
        exact small1000 (by omega)
      refine ⟨_, rfl, .inl ⟨rfl, _, SqL.of h3l⟩, _, rfl, _, rfl, l, _, _, _, rfl, rfl, SqL.of h3l, hlast, _, rfl, p, _, dx, _, _, rfl, s3 _ _ hp, T.c_Roads, T.a_Roads_reached, rF_r t ll r, _, rfl, r, _, rfl, (by rw [← hvd]; exact DGet.k (k := Sum.inr o) (s3 _ _ hrr)), _, rfl, p, _, dx, _, _, rfl, s3 _ _ hp, T.c_Roads, T.a_Roads_lanes, rF_l t ll r,
        y, o, d, ll, hh o, ws, u, rfl, s3 _ _ hdd, hl.mono s3, S, hy, e, fun y' m' u' he hy' hm' => ?_⟩
      refine ⟨l, _, _, rfl, rfl, h3l, hlen, ?_⟩
      have hmw := (M.len _ he).1
      simp only at hmw
      refine ⟨u'.toNat, ?_, y', y :: zs, u', rfl, same_mut s3 l0, ?_, .cons pth he hy' hy hm', hy', ?_, rfl⟩
      · have := S.nonneg (fun e he => (M.len e he).1) hy'
        omega
      · rw [upd_same]
        simp [sV]
      · have lt := countP_lt (p := low (lk (hh o)) u') (q := low (lk (hh o)) u) (l := ps) (fun z _ hz => by
          obtain ⟨t, ht, hl⟩ := low_true hz
          exact low_of ht (by omega)) (S.mem M.on ho hy') (low_of hy' (by omega)) (low_not hy' (Int.le_refl _))
        show (y :: zs).length + 1 + _ ≤ _
        omega
end
end FP
/-! FG -/
namespace FP
open PySem PySem.Spec PyProof.Rows L2 FM FL
/-- a trip that a table takes -/
structure TrOk (ps : List Str) (hh : Str → List (Str × Int)) (t : Tr) : Prop where
  nm : okName t.nm
  o : t.o ∈ ps
  g : t.g ∈ ps
  st : 0 ≤ t.st
  lt : t.st < t.fi
  fi : t.fi ≤ LIM
  se : 0 ≤ t.se ∧ t.se ≤ LIM
  way : ∃ l, lk (hh t.o) t.g = some l ∧ l ≤ t.fi - t.st
/-- the board: each trip by its name -/
def brd (qs : List (Tr × Addr)) : List (Key × V) := qs.map fun q => ((Sum.inr q.1.nm : Key), V.ref q.2)
theorem brd_none {qs : List (Tr × Addr)} {x : Str} (h : ∀ q ∈ qs, q.1.nm ≠ x) : valV (brd qs) (Sum.inr x : Key) = none := by
  induction qs with
  | nil => rfl
  | cons q r ih =>
    show valV (((Sum.inr q.1.nm : Key), V.ref q.2) :: brd r) _ = _
    rw [valV_neg (p := ((Sum.inr q.1.nm : Key), V.ref q.2)) (fun e => h q List.mem_cons_self (Sum.inr.inj e))]
    exact ih fun q' hq => h q' (List.mem_cons_of_mem _ hq)
theorem brd_some {qs : List (Tr × Addr)} (nd : (qs.map fun q => q.1.nm).Nodup) {q : Tr × Addr} (hq : q ∈ qs) : valV (brd qs) (Sum.inr q.1.nm : Key) = some (.ref q.2) := by
  induction qs with
  | nil => cases hq
  | cons z r ih =>
    obtain ⟨n1, n2⟩ := List.nodup_cons.mp nd
    show valV (((Sum.inr z.1.nm : Key), V.ref z.2) :: brd r) _ = _
    rcases List.mem_cons.mp hq with rfl | hq
    · exact valV_pos (p := ((Sum.inr q.1.nm : Key), V.ref q.2)) rfl
    · rw [valV_neg (p := ((Sum.inr z.1.nm : Key), V.ref z.2)) (fun e => n1 (List.mem_map.mpr ⟨q, hq, (Sum.inr.inj e).symm⟩))]
      exact ih n2 hq
theorem brd_put {qs : List (Tr × Addr)} {t : Tr} {a : Addr} (h : ∀ q ∈ qs, q.1.nm ≠ t.nm) : putK (brd qs) (Sum.inr t.nm : Key) (.ref a) = brd (qs ++ [(t, a)]) := by
  rw [putK_new _ (brd_none h)]
  unfold brd
  rw [List.map_append]
  rfl
theorem brd_len (qs : List (Tr × Addr)) : (brd qs).length = qs.length := List.length_map ..
def tF (r b : Addr) : List (Str × V) := putF "board" (.ref b) (putF "roads" (.ref r) [])
theorem n_br : ¬ (("board" : Str) = "roads") := by decide +kernel
theorem n_rb : ¬ (("roads" : Str) = "board") := by decide +kernel
theorem tF_r (r b : Addr) : (tF r b).lookup ("roads" : Str) = some (.ref r) := by
  unfold tF
  rw [lookup_putF, if_neg n_rb, lookup_putF, if_pos rfl]
theorem tF_b (r b : Addr) : (tF r b).lookup ("board" : Str) = some (.ref b) := by
  unfold tF
  rw [lookup_putF, if_pos rfl]
theorem tF_no (r b : Addr) {m : Str} (h1 : ¬ m = "board") (h2 : ¬ m = "roads") : (tF r b).lookup m = none := by
  unfold tF
  rw [lookup_putF, if_neg h1, lookup_putF, if_neg h2]
  rfl
/-- a table stands at p -/
structure TableAt (C CR : Addr) (H : Hp) (p : Addr) (ps : List Str) (ws : List Way) (hh : Str → List (Str × Int)) (ts : List Tr) : Prop where
  ex : ∃ (dx rp bd : Addr) (qs : List (Tr × Addr)), H p = some (.ins C dx (tF rp bd)) ∧ RoadsAt CR H rp ps ws hh ∧ H bd = some (.dK (brd qs)) ∧ qs.map (·.1) = ts ∧ ∀ q ∈ qs, H q.2 = some (.tup (tV q.1))
  nd : (ts.map (·.nm)).Nodup
  ok : ∀ t ∈ ts, TrOk ps hh t
  few : ts.length ≤ 40
theorem TableAt.mono {C CR : Addr} {H H' : Hp} {p : Addr} {ps : List Str} {ws : List Way} {hh : Str → List (Str × Int)} {ts : List Tr} (s : Same H H') (R : TableAt C CR H p ps ws hh ts) : TableAt C CR H' p ps ws hh ts := by
  obtain ⟨⟨dx, rp, bd, qs, h1, h2, h3, h4, h5⟩, h6, h7, h8⟩ := R
  exact ⟨⟨dx, rp, bd, qs, s _ _ h1, h2.mono s, s _ _ h3, h4, fun q hq => s _ _ (h5 q hq)⟩, h6, h7, h8⟩
section
variable {P : Program} {w : World} {K : PySem.W.Frag} {mg : Str → Option Value} {base : Heap}
def spCtrip (C : Addr) : Sp := fun vs H Q _ => ∃ (p b a : Addr) (ps : List Str) (ws : List Way) (hh : Str → List (Str × Int)) (kvs : List (Key × V)) (t : Tr), vs = [.ref p, .ref b, .ref a] ∧ RoadsAt C H p ps ws hh ∧ H b = some (.dK kvs) ∧ valV kvs (Sum.inr t.nm : Key) = none ∧ H a = some (.tup (tV t)) ∧ TrOk ps hh t ∧
  ∀ H', Same H H' → Q .non H'
theorem sc_ctrip : FnScope ["roads", "board", "trip", "name", "origin", "goal", "start", "finish", "seats", "least", "value"] ["roads", "board", "trip"] (defScope st_ctrip) := ⟨rfl, rfl, rfl, by decide +kernel, rfl, by decide +kernel, by decide +kernel⟩
theorem ok_ctrip (T : Tx w K mg) : Ok P w K mg base 2 (He.ga K "check_trip") ["roads", "board", "trip"] (spCtrip (He.ga K "Roads")) := by
  obtain ⟨fdN, GN, kN, bN⟩ := ok_cname (P := P) (base := base) T
  obtain ⟨fdC, GC, kC, bC⟩ := ok_cnumber (P := P) (base := base) T
  obtain ⟨fdL, GL, kL, bL⟩ := ok_rlength (P := P) (base := base) T
  refine ok_of T.d_ctrip sc_ctrip (fun vs H Q E h => ?_) (fun _ _ _ _ _ _ us hl => match us, hl with | [_, _, _], _ => rfl) (fun cdv A outer s H vs Q E hr h => ?_)
  · obtain ⟨p, b, a, ps, ws, hh, kvs, t, rfl, _⟩ := h
    rfl
  · obtain ⟨p, b, a, ps, ws, hh, kvs, t, rfl, R, hb, hno, ha, O, k⟩ := h
    have hu := hu_of hr
    obtain ⟨l, hl, le⟩ := O.way
    have R' := R
    obtain ⟨⟨dx, t1, l1, r1, kvs1, hp, _⟩, _⟩ := R'
    refine ⟨_, pss_cons (ps_asg (pv 2) (pg_tup rfl (pgs_cons (pg_name (i := 3) sc_ctrip.nd rfl (Or.inl rfl)) (pgs_cons (pg_name (i := 4) sc_ctrip.nd rfl (Or.inl rfl)) (pgs_cons (pg_name (i := 5) sc_ctrip.nd rfl (Or.inl rfl))
        (pgs_cons (pg_name (i := 6) sc_ctrip.nd rfl (Or.inl rfl)) (pgs_cons (pg_name (i := 7) sc_ctrip.nd rfl (Or.inl rfl)) (pgs_cons (pg_name (i := 8) sc_ctrip.nd rfl (Or.inl rfl)) pgs_nil))))))))
      (pss_cons (ps_if (pt_cmp (pc_din hu (pe_call GN hr rfl T.g_checked_name kN bN .nil pass0 (pa_cons (pv 3) pa_nil)) (pv 1))) (pss_one ps_never) pss_nil)
      (pss_cons (ps_set (i := 9) sc_ctrip.nd rfl (Or.inl rfl) (pe_meth (pv 0) T.c_Roads T.m_Roads_length GL hr bL .nil pass0 (pa_cons (pv 4) (pa_cons (pv 5) pa_nil))))
      (pss_cons (ps_for PassesOwn.never rfl (pi_list (pe_lst (pa_cons (pv 6) (pa_cons (pv 7) (pa_cons (pv 8) pa_nil))))) (pg_name (i := 10) sc_ctrip.nd rfl (Or.inl rfl))
        (pss_one (ps_expr (pe_call GC hr rfl T.g_checked_number kC bC .nil pass0 (pa_cons (pv 10) (pa_cons pe_int pa_nil))))))
      (pss_cons (ps_if (pt_cmpR op_le (pv 7) (pv 6) (nomark _)) (pss_one ps_never) pss_nil)
      (pss_cons (ps_if (pt_cmpR op_isN (pv 9) pe_non (nomark _)) (pss_one ps_never) pss_nil)
      (pss_one (ps_if (pt_cmpR op_lt (pe_op op_sub (pv 7) (pv 6)) (pv 9) (nomark _)) (pss_one ps_never) pss_nil))))))), ?_⟩
    refine ⟨_, rfl, a, _, rfl, SqT.of ha, rfl, _, _, rfl, _, _, rfl, _, _, rfl, _, _, rfl, _, _, rfl, _, _, rfl, rfl, ?_⟩
    refine ⟨_, rfl, t.nm, rfl, O.nm, _, rfl, b, _, rfl, DGet.k (k := Sum.inr t.nm) hb, _, rfl, ?_⟩
    rw [hno]
    refine iteF ?_
    refine ⟨_, rfl, p, dx, _, rfl, hp, rF_no t1 l1 r1 (by decide +kernel) (by decide +kernel) (by decide +kernel), _, rfl, _, rfl, p, t.o, t.g, ps, ws, hh, rfl, R, O.o, O.g, fun H1 s1 => ?_⟩
    rw [hl]
    refine ⟨_, rfl, _, rfl, _, rfl, by show 3 ≤ sizeLine; decide, fun q hq => ?_⟩
    refine ⟨q, rfl, ⟨_, SqL.of upd_same⟩, for_list (K := K) (a := q) (xs := [V.int t.st, V.int t.fi, V.int t.se])
      (fun i σ H' => ∃ v, σ = [some (.ref p), some (.ref b), some (.ref a), some (.str t.nm), some (.str t.o), some (.str t.g), some (.int t.st), some (.int t.fi), some (.int t.se), some (.int l), v] ∧ Same (upd H1 q (.lst [V.int t.st, V.int t.fi, V.int t.se])) H')
      ⟨none, rfl, Same.refl _⟩ (fun i σ H' _ ⟨_, _, s⟩ => SqL.of (s _ _ upd_same)) ?_ ?_⟩
    · rintro i x σ H2 hi ⟨v, rfl, s2⟩
      have hx : ∃ y, x = .int y ∧ 0 ≤ y ∧ y ≤ LIM := by
        have := O.st
        have := O.lt
        have := O.fi
        match i, hi with
        | 0, hi => exact ⟨t.st, (Option.some.inj hi).symm, by omega, by omega⟩
        | 1, hi => exact ⟨t.fi, (Option.some.inj hi).symm, by omega, by omega⟩
        | 2, hi => exact ⟨t.se, (Option.some.inj hi).symm, O.se.1, O.se.2⟩
        | i + 3, hi => simp at hi
      obtain ⟨y, rfl, y0, y1⟩ := hx
      exact ⟨_, rfl, y, 0, rfl, y0, y1, _, rfl, s2⟩
    · rintro σ H2 ⟨v, rfl, s2⟩
      have lt := O.lt
      refine ⟨_, rfl, _, rfl, _, _, rfl, rfl, _, rfl, ?_⟩
      show if decide (t.fi ≤ t.st) = true then _ else _
      rw [decide_eq_false (show ¬ t.fi ≤ t.st by omega)]
      refine iteF ?_
      refine ⟨_, rfl, rfl, _, rfl, ?_⟩
      refine iteF ?_
      refine ⟨_, rfl, _, rfl, _, _, rfl, rfl, _, rfl, _, _, rfl, rfl, _, rfl, ?_⟩
      rw [decide_eq_false (show ¬ t.fi - t.st < l by omega)]
      exact iteF (k H2 ((s1.trans (same_new hq)).trans s2))
def spTinit (C CR : Addr) : Sp := fun vs H Q _ => ∃ (H0 : Hp) (p dx rp a : Addr) (ps : List Str) (ws : List Way) (hh : Str → List (Str × Int)) (ts : List Tr), vs = [.ref p, .ref rp, .ref a] ∧ Same H0 H ∧ H0 p = none ∧ H p = some (.ins C dx []) ∧ RoadsAt CR H0 rp ps ws hh ∧ LstT tV H0 a ts ∧
  (ts.map (·.nm)).Nodup ∧ (∀ t ∈ ts, TrOk ps hh t) ∧ ts.length ≤ 40 ∧ ∀ H', Same H0 H' → TableAt C CR H' p ps ws hh ts → Q .non H'
theorem sc_tinit : FnScope ["self", "roads", "trips", "trip"] ["self", "roads", "trips"] (defScope st_tinit) := ⟨rfl, rfl, rfl, by decide +kernel, rfl, by decide +kernel, by decide +kernel⟩
theorem ok_tinit (T : Tx w K mg) : Ok P w K mg base 3 (He.ma K (He.ga K "Table") "__init__") ["self", "roads", "trips"] (spTinit (He.ga K "Table") (He.ga K "Roads")) := by
  obtain ⟨t1, g1⟩ := T.i_MOST_TRIPS
  obtain ⟨fdC, GC, kC, bC⟩ := ok_ctrip (P := P) (base := base) T
  refine ok_of T.d_tinit sc_tinit (fun vs H Q E h => ?_) (fun _ _ _ _ _ _ us hl => match us, hl with | [_, _, _], _ => rfl) (fun cdv A outer s H vs Q E hr h => ?_)
  · obtain ⟨H0, p, dx, rp, a, ps, ws, hh, ts, rfl, _⟩ := h
    rfl
  · obtain ⟨H0, p, dx, rp, a, ps, ws, hh, ts, rfl, s0, p0, hp, R, ha, nd, ok, few, k⟩ := h
    have hu := hu_of hr
    obtain ⟨wp, ha1, ha2⟩ := id ha
    have lw : (wp.map V.ref).length = ts.length := by rw [List.length_map]; exact ha2.1
    refine ⟨_, pss_cons (ps_if (pt_cmpR op_gt (pe_callB call_len_seq (by rfl) T.n_len PySem.boot_len (pa_cons (pv 2) pa_nil)) (pe_glob (v := .int 40) rfl g1 ⟨_, rfl⟩) (nomark _)) (pss_one ps_never) pss_nil)
      (pss_cons (ps_fld (pv 0) (pv 1) rfl)
      (pss_cons (ps_fld (pv 0) pe_dnewK rfl)
      (pss_one (ps_for PassesOwn.never rfl (pi_list (pv 2)) (pg_name (i := 3) sc_tinit.nd rfl (Or.inl rfl))
        (pss_cons (ps_expr (pe_call GC hr rfl T.g_check_trip kC bC .nil pass0 (pa_cons (pv 1) (pa_cons (pe_fld (pv 0) rfl) (pa_cons (pv 3) pa_nil)))))
        (pss_one (ps_dput hu (pe_fld (pv 0) rfl) (pe_ix ix_tup (pv 3) pe_int (fun _ _ => rfl)) (pv 3) rfl))))))), ?_⟩
    refine ⟨_, rfl, a, _, rfl, .inl (SqL.of (s0 _ _ ha1)), _, _, rfl, rfl, _, rfl, ?_⟩
    show if decide ((40 : Int) < ((wp.map V.ref).length : Int)) = true then _ else _
    rw [decide_eq_false (show ¬ (40 : Int) < ((wp.map V.ref).length : Int) by rw [lw]; omega)]
    refine iteF ?_
    refine ⟨_, rfl, _, rfl, p, _, dx, [], rfl, hp, T.c_Table, T.a_Table_roads, by show 0 < 1000; decide, ?_⟩
    intro bd hbd
    have npb : p ≠ bd := by
      intro e
      rw [← e, upd_same] at hbd
      cases hbd
    have hbd' : H bd = none := by
      rw [upd_ne npb.symm] at hbd
      exact hbd
    have b0 : H0 bd = none := s0.free hbd'
    refine ⟨_, rfl, p, _, dx, _, rfl, (upd_ne npb).trans upd_same, T.c_Table, T.a_Table_board, by show 1 < 1000; decide, ?_⟩
    have s4 : Same H0 (upd (upd (upd H p (.ins (He.ga K "Table") dx (putF "roads" (.ref rp) []))) bd (.dK [])) p (.ins (He.ga K "Table") dx (putF "board" (.ref bd) (putF "roads" (.ref rp) [])))) := same_mut (same_mut (same_mut s0 p0) b0) p0
    have h4p : (upd (upd (upd H p (.ins (He.ga K "Table") dx (putF "roads" (.ref rp) []))) bd (.dK [])) p (.ins (He.ga K "Table") dx (putF "board" (.ref bd) (putF "roads" (.ref rp) [])))) p = some (.ins (He.ga K "Table") dx (putF "board" (.ref bd) (putF "roads" (.ref rp) []))) := upd_same
    have h4b : (upd (upd (upd H p (.ins (He.ga K "Table") dx (putF "roads" (.ref rp) []))) bd (.dK [])) p (.ins (He.ga K "Table") dx (putF "board" (.ref bd) (putF "roads" (.ref rp) [])))) bd = some (.dK []) := by rw [upd_ne npb.symm, upd_same]
    revert s4 h4p h4b
    generalize (upd (upd (upd H p (.ins (He.ga K "Table") dx (putF "roads" (.ref rp) []))) bd (.dK [])) p (.ins (He.ga K "Table") dx (putF "board" (.ref bd) (putF "roads" (.ref rp) [])))) = H4
    intro s4 h4p' h4b
    have h4p : H4 p = some (.ins (He.ga K "Table") dx (tF rp bd)) := h4p'
    refine ⟨_, rfl, a, rfl, ⟨_, SqL.of (s4 _ _ ha1)⟩, for_list (K := K) (a := a) (xs := wp.map V.ref)
      (fun i σ H' => ∃ (v : Option V) (qs : List (Tr × Addr)), σ = [some (.ref p), some (.ref rp), some (.ref a), v] ∧ Same H0 H' ∧ H' p = some (.ins (He.ga K "Table") dx (tF rp bd)) ∧ H' bd = some (.dK (brd qs)) ∧ qs.map (·.1) = ts.take i ∧ ∀ q ∈ qs, H' q.2 = some (.tup (tV q.1)))
      ⟨none, [], rfl, s4, h4p, h4b, by simp, fun q hq => nomatch hq⟩ (fun i σ H' _ ⟨_, _, _, s, _⟩ => SqL.of (s _ _ ha1)) ?_ ?_⟩
    · rintro i x σ H5 hi ⟨v, qs, rfl, s5, h5p, h5b, eq, all⟩
      obtain ⟨q, t, rfl, hq, ht, hm, hT⟩ := ha2.at hi
      have hil := (List.getElem?_eq_some_iff.mp ht).1
      have h5T := s5 _ _ hT
      have new : ∀ z ∈ qs, z.1.nm ≠ t.nm := by
        intro z hz e
        have hz1 : z.1 ∈ ts.take i := by rw [← eq]; exact List.mem_map.mpr ⟨z, hz, rfl⟩
        have nn := nodup_next (i := i) (x := t.nm) nd (by rw [List.getElem?_map, ht]; rfl)
        rw [← List.map_take] at nn
        exact nn (List.mem_map.mpr ⟨z.1, hz1, e⟩)
      have lq : qs.length = i := by
        have := congrArg List.length eq
        rw [List.length_map, List.length_take] at this
        omega
      refine ⟨_, rfl, _, rfl, p, _, dx, _, _, rfl, h5p, T.c_Table, T.a_Table_board, tF_b rp bd, _, rfl, rp, bd, q, ps, ws, hh, brd qs, t, rfl, R.mono s5, h5b, brd_none new, h5T, ok t hm, fun H6 s6 => ?_⟩
      refine ⟨_, rfl, _, rfl, p, _, dx, _, _, rfl, s6 _ _ h5p, T.c_Table, T.a_Table_board, tF_b rp bd, _, rfl, q, tV t, 0, .str t.nm, rfl, rfl, SqT.of (s6 _ _ h5T), rfl, bd, _, rfl, DPut.k (k := Sum.inr t.nm) (s6 _ _ h5b) (small1000 (by rw [brd_len]; omega)), ?_⟩
      rw [brd_put new]
      have nq : ∀ z : Addr, (∃ u, H5 z = some (.tup u)) → z ≠ bd := by
        rintro z ⟨u, hz⟩ e
        rw [e, h5b] at hz
        cases hz
      refine ⟨_, qs ++ [(t, q)], rfl, same_mut (s5.trans s6) b0, (upd_ne npb).trans (s6 _ _ h5p), upd_same, ?_, fun z hz => ?_⟩
      · rw [List.map_append, eq, take_next ht]
        rfl
      · rcases List.mem_append.mp hz with hz | hz
        · rw [upd_ne (nq z.2 ⟨_, all z hz⟩)]
          exact s6 _ _ (all z hz)
        · rw [List.mem_singleton.mp hz]
          exact (upd_ne (nq q ⟨_, h5T⟩)).trans (s6 _ _ h5T)
    · rintro σ H5 ⟨v, qs, rfl, s5, h5p, h5b, eq, all⟩
      rw [lw, List.take_length] at eq
      exact k H5 s5 ⟨⟨dx, rp, bd, qs, h5p, R.mono s5, h5b, eq, all⟩, nd, ok, few⟩
def spTtrip (C CR : Addr) : Sp := fun vs H Q _ => ∃ (p : Addr) (ps : List Str) (ws : List Way) (hh : Str → List (Str × Int)) (ts : List Tr) (t : Tr), vs = [.ref p, .str t.nm] ∧ TableAt C CR H p ps ws hh ts ∧ t ∈ ts ∧ ∀ a, H a = some (.tup (tV t)) → Q (.ref a) H
theorem sc_ttrip : FnScope ["self", "name"] ["self", "name"] (defScope st_ttrip) := ⟨rfl, rfl, rfl, by decide +kernel, rfl, by decide +kernel, by decide +kernel⟩
theorem ok_ttrip (T : Tx w K mg) : Ok P w K mg base 1 (He.ma K (He.ga K "Table") "trip") ["self", "name"] (spTtrip (He.ga K "Table") (He.ga K "Roads")) := by
  refine ok_of T.d_ttrip sc_ttrip (fun vs H Q E h => ?_) (fun _ _ _ _ _ _ us hl => match us, hl with | [_, _], _ => rfl) (fun cdv A outer s H vs Q E hr h => ?_)
  · obtain ⟨p, ps, ws, hh, ts, t, rfl, _⟩ := h
    rfl
  · obtain ⟨p, ps, ws, hh, ts, t, rfl, TT, ht, k⟩ := h
    have hu := hu_of hr
    obtain ⟨⟨dx, rp, bd, qs, hp, R, hb, eq, all⟩, nd, ok, few⟩ := TT
    rw [← eq] at ht nd
    obtain ⟨q, hq, rfl⟩ := List.mem_map.mp ht
    have nd' : (qs.map fun q => q.1.nm).Nodup := by
      rw [List.map_map] at nd
      exact nd
    have hv := brd_some nd' hq
    refine ⟨_, pss_cons (ps_if (pt_cmp (pc_dnotin hu (pv 1) (pe_fld (pv 0) rfl))) (pss_one ps_never) pss_nil)
      (pss_one (ps_ret (pe_dget hu (pe_fld (pv 0) rfl) (pv 1) (fun _ _ => rfl)))), ?_⟩
    refine ⟨_, rfl, _, rfl, p, _, dx, _, _, rfl, hp, T.c_Table, T.a_Table_board, tF_b rp bd, bd, _, rfl, DGet.k (k := Sum.inr q.1.nm) hb, _, rfl, ?_⟩
    rw [hv]
    refine iteF ?_
    exact ⟨_, rfl, p, _, dx, _, _, rfl, hp, T.c_Table, T.a_Table_board, tF_b rp bd, _, rfl, bd, _, rfl, (by rw [← hv]; exact DGet.k (k := Sum.inr q.1.nm) hb), k q.2 (all q hq)⟩
end
end FP
/-! FH -/
namespace FP
open PySem PySem.Spec PyProof.Rows L2 FM FL
/-- the def names, its code object and that one's table -/
abbrev cN (K : PySem.W.Frag) : Addr × Addr := He.cT K ("Table", some "names")
/-- the name that the lambda's code object bears -/
def lamQ : Str := (("Table.names" : Str) ++ ".<locals>.") ++ "<lambda>"
def tripOf (ts : List Tr) (x : Str) : Option Tr := ts.find? fun t => decide (t.nm = x)
theorem tripOf_eq {ts : List Tr} (nd : (ts.map (·.nm)).Nodup) {t : Tr} (h : t ∈ ts) : tripOf ts t.nm = some t := by
  unfold tripOf
  induction ts with
  | nil => cases h
  | cons z r ih =>
    obtain ⟨n1, n2⟩ := List.nodup_cons.mp nd
    rw [List.find?_cons]
    rcases List.mem_cons.mp h with rfl | h
    · simp
    · rw [decide_eq_false (fun e => n1 (List.mem_map.mpr ⟨t, h, e.symm⟩))]
      exact ih n2 h
def posL : Nat → Pos := fun i => ([⟨165, 52, 165, 56⟩, ⟨165, 52, 165, 62⟩, ⟨165, 63, 165, 67⟩, ⟨165, 52, 165, 68⟩, ⟨165, 69, 165, 70⟩, ⟨165, 52, 165, 71⟩, ⟨165, 73, 165, 77⟩, ⟨165, 73, 165, 83⟩, ⟨165, 84, 165, 88⟩, ⟨165, 73, 165, 89⟩, ⟨165, 90, 165, 91⟩, ⟨165, 73, 165, 92⟩, ⟨165, 94, 165, 98⟩, ⟨165, 51, 165, 99⟩] : List Pos).getD i ⟨0, 0, 0, 0⟩
section
variable {P : Program} {w : World} {K : PySem.W.Frag} {mg : Str → Option Value} {base : Heap}
def spTnames (K : PySem.W.Frag) : Sp := fun vs H Q _ => ∃ (p : Addr) (ps : List Str) (ws : List Way) (hh : Str → List (Str × Int)) (ts : List Tr), vs = [.ref p] ∧ TableAt (He.ga K "Table") (He.ga K "Roads") H p ps ws hh ts ∧ LamX.TabS H (cN K).2 lamQ ∧
  ∀ H' l ys, LamX.ExtN H H' → H' l = some (.lst (sV ys)) → ys.Perm (ts.map (·.nm)) → Q (.ref l) H'
theorem sc_tnames : FnScope ["self"] ["self"] (defScope st_tnames) := ⟨rfl, rfl, rfl, by decide +kernel, rfl, by decide +kernel, by decide +kernel⟩
theorem ok_tnames (T : Tx w K mg) (TB : LamX.TabB base mg (cN K).1 (cN K).2) : Ok P w K mg base 2 (He.ma K (He.ga K "Table") "names") ["self"] (spTnames K) := by
  obtain ⟨fd, F⟩ := T.d_tnames
  have kp := F.kp
  have bN : Binds K fd ["self"] [] := F.bindsN fun _ _ _ _ _ _ us hl => match us, hl with | [_], _ => rfl
  obtain ⟨oc, od, dV, kV, doc, pm, an, cdv, ct, osl, rfl, lk, hcd, _, _⟩ := F.ex
  obtain ⟨c, rfl⟩ := He.codeIn_ref hcd
  have ec : (cN K).1 = c := He.codeOf_eq lk rfl
  rw [ec] at TB
  refine ⟨_, fn_of lk hcd sc_tnames (fun vs H Q E h => ?_) (fun A outer s H vs Q E hr h => ?_), kp, bN⟩
  · obtain ⟨p, ps, ws, hh, ts, rfl, _⟩ := h
    rfl
  · obtain ⟨p, ps, ws, hh, ts, rfl, TT, tab, k⟩ := h
    refine ⟨_, PSs.nox (pss_one (ps_ret (pe_sortKey (i := 0) (slf := "self") (brd := "board") (nm := "name") (n1 := 3) (n2 := 4) (pp := posL) (cS := s.heap.objs.size + 1) (by rfl) T.n_sorted (pe_fld (pv 0) rfl) TB rfl hr rfl rfl (by rfl) rfl (by decide +kernel) ?hclo ?hbind rfl rfl rfl (by decide +kernel) (by rfl) (by rfl)
      (by decide +kernel) (by decide +kernel) (by decide +kernel) ?hb (by rfl)))), ?_⟩
    case hclo =>
      intro cl h
      simp [cloFrom, h]
    case hbind => intro q cl pm cv ctv u; rfl
    case hb =>
      intro env q h
      cases env
      cases h
      rfl
    obtain ⟨⟨dx, rp, bd, qs, hp, R, hb, eq, all⟩, nd, ok, few⟩ := TT
    have nd' : (qs.map fun q => q.1.nm).Nodup := by
      rw [← eq, List.map_map] at nd
      exact nd
    refine ⟨_, rfl, p, _, dx, _, _, rfl, hp, T.c_Table, T.a_Table_board, tF_b rp bd, bd, p, _, dx, _, brd qs, ts.map (·.nm), fun x => ((tripOf ts x).map (·.st)).getD 0, fun x => ((tripOf ts x).map (·.fi)).getD 0, rfl, tab, rfl, hp, T.c_Table, T.a_Table_board, tF_b rp bd, hb, ?_, fun x hx => ?_, fun H2 ys l eN pm hl => ?_⟩
    · unfold brd
      rw [← eq, List.map_map, List.map_map, List.map_map]
      rfl
    · obtain ⟨t, ht, rfl⟩ := List.mem_map.mp hx
      have ht' := ht
      rw [← eq] at ht'
      obtain ⟨q, hq, rfl⟩ := List.mem_map.mp ht'
      show ∃ t xs, valV (brd qs) (Sum.inr q.1.nm : Key) = some (.ref t) ∧ H t = some (.tup xs) ∧ xs[3]? = some (V.int (((tripOf ts q.1.nm).map (·.st)).getD 0)) ∧ xs[4]? = some (V.int (((tripOf ts q.1.nm).map (·.fi)).getD 0))
      rw [tripOf_eq nd ht]
      exact ⟨q.2, tV q.1, brd_some nd' hq, all q hq, rfl, rfl⟩
    · exact k _ l ys (fun b o h1 h2 => (upd_ne (ne_of_none (eN b o h1 h2) hl)).trans (eN b o h1 h2)) upd_same pm
end
end FP
/-! FI -/
namespace FP
open PySem PySem.Spec PyProof.Rows L2 FM FL LamX
/-! ### what tables of code objects do not touch -/
theorem extN_of {H H' : Hp} (s : Same H H') : ExtN H H' := ExtN.of s
theorem extN_l {H H' : Hp} {a : Addr} {xs : List V} (s : ExtN H H') (h : H a = some (.lst xs)) : H' a = some (.lst xs) := s _ _ h (fun _ z => nomatch z)
theorem extN_t {H H' : Hp} {a : Addr} {xs : List V} (s : ExtN H H') (h : H a = some (.tup xs)) : H' a = some (.tup xs) := s _ _ h (fun _ z => nomatch z)
theorem extN_d {H H' : Hp} {a : Addr} {xs : List (Key × V)} (s : ExtN H H') (h : H a = some (.dK xs)) : H' a = some (.dK xs) := s _ _ h (fun _ z => nomatch z)
theorem extN_i {H H' : Hp} {a C dx : Addr} {fs : List (Str × V)} (s : ExtN H H') (h : H a = some (.ins C dx fs)) : H' a = some (.ins C dx fs) := s _ _ h (fun _ z => nomatch z)
theorem LstT.monoN {β : Type} {enc : β → List V} {H H' : Hp} {a : Addr} {bs : List β} (s : ExtN H H') (t : LstT enc H a bs) : LstT enc H' a bs := by
  obtain ⟨ps, h1, h2⟩ := t
  exact ⟨ps, extN_l s h1, h2.1, fun i p b e1 e2 => extN_t s (h2.2 i p b e1 e2)⟩
theorem RoadsAt.monoN {C : Addr} {H H' : Hp} {p : Addr} {ps : List Str} {ws : List Way} {hh : Str → List (Str × Int)} (s : ExtN H H') (R : RoadsAt C H p ps ws hh) : RoadsAt C H' p ps ws hh := by
  obtain ⟨⟨dx, t, l, r, kvs, h1, h2, h3, h4, h5⟩, h6⟩ := R
  refine ⟨⟨dx, t, l, r, kvs, extN_i s h1, extN_l s h2, h3.monoN s, extN_d s h4, fun x hx => ?_⟩, h6⟩
  obtain ⟨d, a, b⟩ := h5 x hx
  exact ⟨d, a, extN_d s b⟩
theorem TableAt.monoN {C CR : Addr} {H H' : Hp} {p : Addr} {ps : List Str} {ws : List Way} {hh : Str → List (Str × Int)} {ts : List Tr} (s : ExtN H H') (R : TableAt C CR H p ps ws hh ts) : TableAt C CR H' p ps ws hh ts := by
  obtain ⟨⟨dx, rp, bd, qs, h1, h2, h3, h4, h5⟩, h6, h7, h8⟩ := R
  exact ⟨⟨dx, rp, bd, qs, extN_i s h1, h2.monoN s, extN_d s h3, h4, fun q hq => extN_t s (h5 q hq)⟩, h6, h7, h8⟩
/-! ### the answers -/
def gapV (hh : Str → List (Str × Int)) (t u : Tr) : V := match lk (hh t.g) u.o with
  | none => .non
  | some m => .int (u.st - t.fi - m)
def linkB (hh : Str → List (Str × Int)) (t u : Tr) : Bool := match lk (hh t.g) u.o with
  | none => false
  | some m => decide (0 ≤ u.st - t.fi - m)
/-- whether the trip called y is linked behind the one called x -/
def lkN (hh : Str → List (Str × Int)) (ts : List Tr) (x y : Str) : Bool := match tripOf ts x, tripOf ts y with
  | some t, some u => linkB hh t u
  | _, _ => false
theorem lkN_eq {hh : Str → List (Str × Int)} {ts : List Tr} (nd : (ts.map (·.nm)).Nodup) {t u : Tr} (ht : t ∈ ts) (hu : u ∈ ts) : lkN hh ts t.nm u.nm = linkB hh t u := by
  unfold lkN
  rw [tripOf_eq nd ht, tripOf_eq nd hu]
/-- the told dict: a list for each name -/
def rowD (rs : List (Str × Addr)) : List (Key × V) := rs.map fun r => ((Sum.inr r.1 : Key), V.ref r.2)
theorem rowD_some {rs : List (Str × Addr)} (nd : (rs.map (·.1)).Nodup) {r : Str × Addr} (hr : r ∈ rs) : valV (rowD rs) (Sum.inr r.1 : Key) = some (.ref r.2) := by
  induction rs with
  | nil => cases hr
  | cons z l ih =>
    obtain ⟨n1, n2⟩ := List.nodup_cons.mp nd
    show valV (((Sum.inr z.1 : Key), V.ref z.2) :: rowD l) _ = _
    rcases List.mem_cons.mp hr with rfl | hr
    · exact valV_pos (p := ((Sum.inr r.1 : Key), V.ref r.2)) rfl
    · rw [valV_neg (p := ((Sum.inr z.1 : Key), V.ref z.2)) (fun e => n1 (List.mem_map.mpr ⟨r, hr, (Sum.inr.inj e).symm⟩))]
      exact ih n2 hr
theorem rowD_none {rs : List (Str × Addr)} {x : Str} (h : x ∉ rs.map (·.1)) : valV (rowD rs) (Sum.inr x : Key) = none := by
  induction rs with
  | nil => rfl
  | cons q r ih =>
    show valV (((Sum.inr q.1 : Key), V.ref q.2) :: rowD r) _ = _
    rw [valV_neg (p := ((Sum.inr q.1 : Key), V.ref q.2)) (fun e => h (by rw [← Sum.inr.inj e]; exact List.mem_cons_self))]
    exact ih fun z => h (List.mem_cons_of_mem _ z)
theorem rowD_put {rs : List (Str × Addr)} {x : Str} {a : Addr} (h : x ∉ rs.map (·.1)) : putK (rowD rs) (Sum.inr x : Key) (.ref a) = rowD (rs ++ [(x, a)]) := by
  rw [putK_new _ (rowD_none h)]
  unfold rowD
  rw [List.map_append]
  rfl
section
variable {P : Program} {w : World} {K : PySem.W.Frag} {mg : Str → Option Value} {base : Heap}
def spGap (C CR : Addr) : Sp := fun vs H Q _ => ∃ (p : Addr) (ps : List Str) (ws : List Way) (hh : Str → List (Str × Int)) (ts : List Tr) (t u : Tr), vs = [.ref p, .str t.nm, .str u.nm] ∧ TableAt C CR H p ps ws hh ts ∧ t ∈ ts ∧ u ∈ ts ∧ ∀ H', Same H H' → Q (gapV hh t u) H'
theorem sc_gap : FnScope ["table", "one", "other", "ahead", "behind", "minutes"] ["table", "one", "other"] (defScope st_gap) := ⟨rfl, rfl, rfl, by decide +kernel, rfl, by decide +kernel, by decide +kernel⟩
theorem ok_gap (T : Tx w K mg) : Ok P w K mg base 2 (He.ga K "gap") ["table", "one", "other"] (spGap (He.ga K "Table") (He.ga K "Roads")) := by
  obtain ⟨fdL, GL, kL, bL⟩ := ok_rlength (P := P) (base := base) T
  obtain ⟨fdT, GT, kT, bT⟩ := ok_ttrip (P := P) (base := base) T
  refine ok_of T.d_gap sc_gap (fun vs H Q E h => ?_) (fun _ _ _ _ _ _ us hl => match us, hl with | [_, _, _], _ => rfl) (fun cdv A outer s H vs Q E hr h => ?_)
  · obtain ⟨p, ps, ws, hh, ts, t, u, rfl, _⟩ := h
    rfl
  · obtain ⟨p, ps, ws, hh, ts, t, u, rfl, TT, ht, hu', k⟩ := h
    have TT' := TT
    obtain ⟨⟨dx, rp, bd, qs, hp, R, hb, eq, all⟩, nd, ok, few⟩ := TT'
    have R' := R
    obtain ⟨⟨dx2, t2, l2, r2, kvs2, hrp, _⟩, _⟩ := R'
    refine ⟨_, pss_cons (ps_set (i := 3) sc_gap.nd rfl (Or.inl rfl) (pe_meth (pv 0) T.c_Table T.m_Table_trip GT hr bT .nil pass0 (pa_cons (pv 1) pa_nil)))
      (pss_cons (ps_set (i := 4) sc_gap.nd rfl (Or.inl rfl) (pe_meth (pv 0) T.c_Table T.m_Table_trip GT hr bT .nil pass0 (pa_cons (pv 2) pa_nil)))
      (pss_cons (ps_set (i := 5) sc_gap.nd rfl (Or.inl rfl) (pe_meth (pe_fld (pv 0) rfl) T.c_Roads T.m_Roads_length GL hr bL .nil pass0 (pa_cons (pe_ix ix_tup (pv 3) pe_int (fun _ _ => rfl)) (pa_cons (pe_ix ix_tup (pv 4) pe_int (fun _ _ => rfl)) pa_nil))))
      (pss_cons (ps_if (pt_cmpR op_isN (pv 5) pe_non (nomark _)) (pss_one (ps_ret pe_non)) pss_nil)
      (pss_one (ps_ret (pe_op op_sub (pe_op op_sub (pe_ix ix_tup (pv 4) pe_int (fun _ _ => rfl)) (pe_ix ix_tup (pv 3) pe_int (fun _ _ => rfl))) (pv 5))))))), ?_⟩
    refine ⟨_, rfl, p, dx, _, rfl, hp, tF_no rp bd (by decide +kernel) (by decide +kernel), _, rfl, p, ps, ws, hh, ts, t, rfl, TT, ht, fun a ha => ?_⟩
    refine ⟨_, rfl, p, dx, _, rfl, hp, tF_no rp bd (by decide +kernel) (by decide +kernel), _, rfl, p, ps, ws, hh, ts, u, rfl, TT, hu', fun b hb' => ?_⟩
    refine ⟨_, rfl, p, _, dx, _, _, rfl, hp, T.c_Table, T.a_Table_roads, tF_r rp bd, rp, dx2, _, rfl, hrp, rF_no t2 l2 r2 (by decide +kernel) (by decide +kernel) (by decide +kernel),
      _, rfl, a, tV t, 2, .str t.g, rfl, rfl, SqT.of ha, rfl, _, rfl, b, tV u, 1, .str u.o, rfl, rfl, SqT.of hb', rfl, rp, t.g, u.o, ps, ws, hh, rfl, R, (ok t ht).g, (ok u hu').o, fun H1 s1 => ?_⟩
    refine ⟨_, rfl, rfl, _, rfl, ?_⟩
    unfold gapV at k
    cases e : lk (hh t.g) u.o with
    | none =>
      rw [e] at k
      exact iteT (k H1 s1)
    | some m =>
      rw [e] at k
      refine iteF ?_
      exact ⟨_, rfl, b, tV u, 3, .int u.st, rfl, rfl, SqT.of (s1 _ _ hb'), rfl, _, rfl, a, tV t, 4, .int t.fi, rfl, rfl, SqT.of (s1 _ _ ha), rfl, _, _, rfl, rfl, _, rfl, _, _, rfl, rfl, k H1 s1⟩
def spLinked (C CR : Addr) : Sp := fun vs H Q _ => ∃ (p : Addr) (ps : List Str) (ws : List Way) (hh : Str → List (Str × Int)) (ts : List Tr) (t u : Tr), vs = [.ref p, .str t.nm, .str u.nm] ∧ TableAt C CR H p ps ws hh ts ∧ t ∈ ts ∧ u ∈ ts ∧ ∀ H', Same H H' → Q (.bl (linkB hh t u)) H'
theorem sc_linked : FnScope ["table", "one", "other", "spare"] ["table", "one", "other"] (defScope st_linked) := ⟨rfl, rfl, rfl, by decide +kernel, rfl, by decide +kernel, by decide +kernel⟩
theorem ok_linked (T : Tx w K mg) : Ok P w K mg base 3 (He.ga K "linked") ["table", "one", "other"] (spLinked (He.ga K "Table") (He.ga K "Roads")) := by
  obtain ⟨fdG, GG, kG, bG⟩ := ok_gap (P := P) (base := base) T
  refine ok_of T.d_linked sc_linked (fun vs H Q E h => ?_) (fun _ _ _ _ _ _ us hl => match us, hl with | [_, _, _], _ => rfl) (fun cdv A outer s H vs Q E hr h => ?_)
  · obtain ⟨p, ps, ws, hh, ts, t, u, rfl, _⟩ := h
    rfl
  · obtain ⟨p, ps, ws, hh, ts, t, u, rfl, TT, ht, hu', k⟩ := h
    refine ⟨_, pss_cons (ps_set (i := 3) sc_linked.nd rfl (Or.inl rfl) (pe_call GG hr rfl T.g_gap kG bG .nil pass0 (pa_cons (pv 0) (pa_cons (pv 1) (pa_cons (pv 2) pa_nil)))))
      (pss_one (ps_ret (pe_and (pe_cmpR op_notN (pv 3) pe_non (nomark _)) (pe_one (pe_cmpR op_ge (pv 3) pe_int (nomark _)))))), ?_⟩
    refine ⟨_, rfl, _, rfl, _, rfl, p, ps, ws, hh, ts, t, u, rfl, TT, ht, hu', fun H1 s1 => ?_⟩
    refine ⟨_, rfl, rfl, _, rfl, ?_⟩
    unfold linkB at k
    unfold gapV
    cases e : lk (hh t.g) u.o with
    | none =>
      rw [e] at k
      exact iteF (k H1 s1)
    | some m =>
      rw [e] at k
      refine iteT ?_
      exact ⟨_, rfl, _, _, rfl, rfl, k H1 s1⟩
def spLinks (K : PySem.W.Frag) : Sp := fun vs H Q _ => ∃ (p : Addr) (ps : List Str) (ws : List Way) (hh : Str → List (Str × Int)) (ts : List Tr), vs = [.ref p] ∧ TableAt (He.ga K "Table") (He.ga K "Roads") H p ps ws hh ts ∧ TabS H (cN K).2 lamQ ∧
  ∀ H' d rs ys, ExtN H H' → H' d = some (.dK (rowD rs)) → rs.map (·.1) = ys → ys.Perm (ts.map (·.nm)) → (∀ r ∈ rs, H' r.2 = some (.lst (sV (ys.filter (lkN hh ts r.1))))) → Q (.ref d) H'
theorem sc_links : FnScope ["table", "names", "found", "one", "other"] ["table"] (defScope st_links) := ⟨rfl, rfl, rfl, by decide +kernel, rfl, by decide +kernel, by decide +kernel⟩
theorem ok_links (T : Tx w K mg) (TB : TabB base mg (cN K).1 (cN K).2) : Ok P w K mg base 4 (He.ga K "links") ["table"] (spLinks K) := by
  obtain ⟨fdN, GN, kN, bN⟩ := ok_tnames (P := P) (base := base) T TB
  obtain ⟨fdL, GL, kL, bL⟩ := ok_linked (P := P) (base := base) T
  refine ok_of T.d_links sc_links (fun vs H Q E h => ?_) (fun _ _ _ _ _ _ us hl => match us, hl with | [_], _ => rfl) (fun cdv A outer s H vs Q E hr h => ?_)
  · obtain ⟨p, ps, ws, hh, ts, rfl, _⟩ := h
    rfl
  · obtain ⟨p, ps, ws, hh, ts, rfl, TT, tab, k⟩ := h
    have hu := hu_of hr
    have TT' := TT
    obtain ⟨⟨dx, rp, bd, qs, hp, R, hb, eq, all⟩, nd, ok, few⟩ := TT'
    refine ⟨_, pss_cons (ps_set (i := 1) sc_links.nd rfl (Or.inl rfl) (pe_meth0 (pv 0) T.c_Table T.m_Table_names GN (hr.mono (by decide)) bN .nil pass0))
      (pss_cons (ps_set (i := 2) sc_links.nd rfl (Or.inl rfl) pe_dnewK)
      (pss_cons (ps_for PassesOwn.never rfl (pi_list (pv 1)) (pg_name (i := 3) sc_links.nd rfl (Or.inr rfl))
        (pss_one (ps_dput hu (pv 2) (pv 3) (pe_lc (own := [("other", 4)]) (g := gName 4) rfl sc_links.nd (pi_list (pv 1)) (blkOk_by (N := ["table", "names", "found", "one", "other"]) (sc := defScope st_links) (by decide +kernel)) (fun _ _ _ _ _ => pg_name (i := 4) sc_links.nd rfl (Or.inl rfl))
          (fun _ _ _ _ _ => pts_one (pt_val (pe_call GL hr rfl T.g_linked kL bL .nil pass0 (pa_cons (pv 0) (pa_cons (pv 3) (pa_cons (pv 4) pa_nil)))))) (fun _ _ _ _ _ => pv 4)) rfl)))
      (pss_one (ps_ret (pv 2))))), ?_⟩
    refine ⟨_, rfl, p, dx, _, rfl, hp, tF_no rp bd (by decide +kernel) (by decide +kernel), p, ps, ws, hh, ts, rfl, TT, tab, fun H1 l ys e1 hl pm => ?_⟩
    have ndY : ys.Nodup := (pm.nodup_iff).mpr nd
    have inT : ∀ y ∈ ys, ∃ t ∈ ts, t.nm = y := fun y hy => List.mem_map.mp (pm.mem_iff.mp hy)
    have lenY : ys.length ≤ 40 := by
      rw [pm.length_eq, List.length_map]
      exact few
    have TT1 := TT.monoN e1
    intro d hd
    have s1 : Same H1 (upd H1 d (.dK [])) := same_new hd
    refine ⟨_, rfl, l, rfl, ⟨_, SqL.of (s1 _ _ hl)⟩, for_list (K := K) (a := l) (xs := sV ys)
      (fun i σ H' => ∃ (v : Option V) (rs : List (Str × Addr)), σ = [some (.ref p), some (.ref l), some (.ref d), v, none] ∧ Same H1 H' ∧ H' d = some (.dK (rowD rs)) ∧ rs.map (·.1) = ys.take i ∧ ∀ r ∈ rs, H' r.2 = some (.lst (sV (ys.filter (lkN hh ts r.1)))))
      ⟨none, [], rfl, s1, upd_same, by simp, fun r hr => nomatch hr⟩ (fun i σ H' _ ⟨_, _, _, s, _⟩ => SqL.of (s _ _ hl)) ?_ ?_⟩
    · rintro i x σ H2 hi ⟨v, rs, rfl, s2, h2d, er, all2⟩
      obtain ⟨y, hy, rfl, hm⟩ := sV_at hi
      have hil := (List.getElem?_eq_some_iff.mp hy).1
      obtain ⟨t, ht, rfl⟩ := inT y hm
      refine ⟨_, rfl, l, rfl, ⟨_, SqL.of (s2 _ _ hl)⟩, fun D hD => ?_⟩
      refine lc_list (K := K) (a := l) (xs := sV ys) (fun j H' => Same H2 H' ∧ H' D = some (.lst (sV ((ys.take j).filter (lkN hh ts t.nm))))) ⟨same_new hD, upd_same⟩ (fun j H' _ q => SqL.of (q.1 _ _ (s2 _ _ hl))) ?_ ?_
      · rintro j x H3 hj ⟨s3, h3⟩
        obtain ⟨z, hz, rfl, hzm⟩ := sV_at hj
        have hjl := (List.getElem?_eq_some_iff.mp hz).1
        obtain ⟨u, hu1, rfl⟩ := inT z hzm
        refine ⟨rfl, ?_⟩
        refine ⟨_, rfl, _, rfl, _, rfl, p, ps, ws, hh, ts, t, u, rfl, (TT1.mono s2).mono s3, ht, hu1, fun H4 s4 => ?_⟩
        refine ⟨_, rfl, ?_⟩
        have ef : (ys.take (j + 1)).filter (lkN hh ts t.nm) = (ys.take j).filter (lkN hh ts t.nm) ++ (if linkB hh t u = true then [u.nm] else []) := by
          rw [take_next hz, List.filter_append, List.filter_cons, lkN_eq nd ht hu1]
          rfl
        have h4 : H4 D = some (.lst (sV ((ys.take j).filter (lkN hh ts t.nm)))) := s4 _ _ h3
        cases e : linkB hh t u with
        | true =>
          refine iteT ?_
          rw [e] at ef
          refine ⟨_, rfl, _, h4, ?_, same_mut (s3.trans s4) hD, ?_⟩
          · rw [sV_len]
            have := List.length_filter_le (lkN hh ts t.nm) (ys.take j)
            rw [List.length_take] at this
            exact small1000 (by omega)
          · rw [upd_same, ef]
            simp [sV]
        | false =>
          refine iteF ?_
          rw [e] at ef
          refine ⟨s3.trans s4, ?_⟩
          rw [ef]
          simpa using h4
      · rintro H3 ⟨s3, h3⟩
        rw [sV_len, List.take_length] at h3
        have out : t.nm ∉ rs.map (·.1) := by
          rw [er]
          exact nodup_next ndY hy
        have lr : rs.length = i := by
          have := congrArg List.length er
          rw [List.length_map, List.length_take] at this
          omega
        refine ⟨_, rfl, _, rfl, d, _, rfl, DPut.k (k := Sum.inr t.nm) (s3 _ _ h2d) (small1000 (by unfold rowD; rw [List.length_map]; omega)), ?_⟩
        rw [rowD_put out]
        have nq : ∀ z : Addr, (∃ u, H3 z = some (.lst u)) → z ≠ d := by
          rintro z ⟨u, hz⟩ e
          rw [e, s3 _ _ h2d] at hz
          cases hz
        refine ⟨_, rs ++ [(t.nm, D)], rfl, same_mut (s2.trans s3) hd, upd_same, ?_, fun r hr => ?_⟩
        · rw [List.map_append, er, take_next hy]
          rfl
        · rcases List.mem_append.mp hr with hr | hr
          · have := s3 _ _ (all2 r hr)
            exact (upd_ne (nq r.2 ⟨_, this⟩)).trans this
          · rw [List.mem_singleton.mp hr]
            exact (upd_ne (nq D ⟨_, h3⟩)).trans h3
    · rintro σ H2 ⟨v, rs, rfl, s2, h2d, er, all2⟩
      rw [sV_len, List.take_length] at er
      exact ⟨_, rfl, k H2 d rs ys (e1.trans (extN_of s2)) h2d er pm all2⟩
end
end FP
/-! FNam -/
/-! The names that the law makes: plain mathematics. -/
namespace FP
open PySem PySem.Spec PyProof.Rows L2 FM
def sgC : List Nat := SIGNS.cps.toList
def sgAt (x : Int) : Nat := sgC.getD x.toNat 0
def sgS (x : Int) : Str := ⟨#[sgAt x]⟩
def nmOf (r : List Int) : Str := Txt.join "" (r.map sgS)
theorem sgC_len : sgC.length = 36 := by decide +kernel
theorem sgC_inj : ∀ i, i < 36 → ∀ j, j < 36 → sgC.getD i 0 = sgC.getD j 0 → i = j := by decide +kernel
theorem join_signs : ∀ r : List Int, TL.joinL [] (r.map fun x => [sgAt x]) = r.map sgAt
  | [] => rfl
  | [_] => rfl
  | x :: y :: r => by
    show [sgAt x] ++ ([] ++ TL.joinL [] ((y :: r).map fun x => [sgAt x])) = sgAt x :: (y :: r).map sgAt
    rw [join_signs (y :: r)]
    rfl
theorem nmOf_cps (r : List Int) : (nmOf r).cps.toList = r.map sgAt := by
  unfold nmOf
  rw [TL.join_eq]
  have h := TL.tl_join ("" : Str) (r.map sgS)
  have e : (r.map sgS).map TL.tl = r.map fun x => [sgAt x] := by
    rw [List.map_map]
    rfl
  have e0 : TL.tl ("" : Str) = [] := by decide +kernel
  rw [e, e0, join_signs] at h
  exact h
/-- a row of places among the signs -/
def RowOk (r : List Int) : Prop := 1 ≤ r.length ∧ r.length ≤ 12 ∧ ∀ x ∈ r, 0 ≤ x ∧ x < 36
theorem sgAt_mem {x : Int} (h : 0 ≤ x ∧ x < 36) : sgAt x ∈ sgC := by
  unfold sgAt
  have hl : x.toNat < sgC.length := by rw [sgC_len]; omega
  rw [List.getD_eq_getElem?_getD, List.getElem?_eq_getElem hl]
  exact List.getElem_mem hl
theorem nmOf_ok {r : List Int} (h : RowOk r) : okName (nmOf r) := by
  obtain ⟨h1, h2, h3⟩ := h
  have e := nmOf_cps r
  have el : (nmOf r).length = r.length := by
    have := congrArg List.length e
    rw [List.length_map] at this
    rw [← this]
    show (nmOf r).cps.size = _
    rw [Array.length_toList]
  refine ⟨by omega, by omega, fun c hc => ?_⟩
  rw [e] at hc
  obtain ⟨x, hx, rfl⟩ := List.mem_map.mp hc
  exact sgAt_mem (h3 x hx)
theorem nmOf_inj : ∀ {r q : List Int}, (∀ x ∈ r, 0 ≤ x ∧ x < 36) → (∀ x ∈ q, 0 ≤ x ∧ x < 36) → nmOf r = nmOf q → r = q := by
  intro r q hr hq h
  have e : r.map sgAt = q.map sgAt := by rw [← nmOf_cps, ← nmOf_cps, h]
  clear h
  induction r generalizing q with
  | nil =>
    cases q with
    | nil => rfl
    | cons y q => cases e
  | cons x r ih =>
    cases q with
    | nil => cases e
    | cons y q =>
      rw [List.map_cons, List.map_cons] at e
      injection e with e1 e2
      have hx := hr x List.mem_cons_self
      have hy := hq y List.mem_cons_self
      have := sgC_inj x.toNat (by omega) y.toNat (by omega) e1
      have exy : x = y := by omega
      rw [exy, ih (fun z hz => hr z (List.mem_cons_of_mem _ hz)) (fun z hz => hq z (List.mem_cons_of_mem _ hz)) e2]
section
variable (sg : List Int) (c1 : Nat) (way : Int) (many : Nat)
/-- the row as it is made first, at an even and at an odd turn -/
def rowB (k : Nat) : List Int := sg.take c1 ++ (List.replicate (k % 2) (sg.drop 11)).flatten
def spotB (k : Nat) : Int := way / 4 % ((rowB sg c1 k).length : Int)
/-- with its one sign changed -/
def rowC (k : Nat) : List Int := (rowB sg c1 k).set (spotB sg c1 way k).toNat (((rowB sg c1 k).getD (spotB sg c1 way k).toNat 0 + (k : Int)) % 36)
/-- the row in the end -/
def rowF (k : Nat) : List Int := if way % 4 = 2 ∧ many ≤ 12 then sg.take (many - k) else if way % 4 = 1 ∧ many ≤ 12 then sg.take (1 + k) else rowC sg c1 way k
variable {sg c1 way many}
theorem rowB_len (hs : sg.length = 12) (h1 : c1 ≤ 11) (k : Nat) : (rowB sg c1 k).length = c1 + k % 2 := by
  unfold rowB
  rw [List.length_append, List.length_take]
  have h2 : k % 2 = 0 ∨ k % 2 = 1 := by omega
  rcases h2 with e | e
  · rw [e]
    simp
    omega
  · rw [e]
    simp
    omega
theorem rowB_mem (hv : ∀ x ∈ sg, 0 ≤ x ∧ x < 36) (k : Nat) : ∀ x ∈ rowB sg c1 k, 0 ≤ x ∧ x < 36 := by
  intro x hx
  unfold rowB at hx
  rcases List.mem_append.mp hx with h | h
  · exact hv x (List.mem_of_mem_take h)
  · obtain ⟨l, hl, hxl⟩ := List.mem_flatten.mp h
    rw [List.eq_of_mem_replicate hl] at hxl
    exact hv x (List.mem_of_mem_drop hxl)
theorem spot_lt (hs : sg.length = 12) (h0 : 1 ≤ c1) (h1 : c1 ≤ 11) (k : Nat) : 0 ≤ spotB sg c1 way k ∧ spotB sg c1 way k < ((rowB sg c1 k).length : Int) := by
  have hl := rowB_len hs h1 k
  have hp : (0 : Int) < ((rowB sg c1 k).length : Int) := by omega
  exact ⟨Int.emod_nonneg _ (by omega), Int.emod_lt_of_pos _ hp⟩
theorem rowF_ok (hs : sg.length = 12) (hv : ∀ x ∈ sg, 0 ≤ x ∧ x < 36) (h0 : 1 ≤ c1) (h1 : c1 ≤ 11) {k : Nat} (hk : k < many) : RowOk (rowF sg c1 way many k) := by
  unfold rowF
  split
  · rename_i h
    refine ⟨?_, ?_, fun x hx => hv x (List.mem_of_mem_take hx)⟩ <;> rw [List.length_take] <;> omega
  · split
    · rename_i h
      refine ⟨?_, ?_, fun x hx => hv x (List.mem_of_mem_take hx)⟩ <;> rw [List.length_take] <;> omega
    · unfold rowC
      have hl := rowB_len hs h1 k
      refine ⟨?_, ?_, fun x hx => ?_⟩
      · rw [List.length_set]; omega
      · rw [List.length_set]; omega
      · rcases List.mem_or_eq_of_mem_set hx with h | h
        · exact rowB_mem hv k x h
        · rw [h]
          exact ⟨Int.emod_nonneg _ (by decide), Int.emod_lt_of_pos _ (by decide)⟩
theorem rowF_ne (hs : sg.length = 12) (hv : ∀ x ∈ sg, 0 ≤ x ∧ x < 36) (h0 : 1 ≤ c1) (h1 : c1 ≤ 11) (hm : many ≤ 16) {i j : Nat} (hij : i < j) (hj : j < many) : rowF sg c1 way many i ≠ rowF sg c1 way many j := by
  intro e
  unfold rowF at e
  split at e
  · rename_i h
    have := congrArg List.length e
    rw [List.length_take, List.length_take] at this
    omega
  · split at e
    · rename_i h
      have := congrArg List.length e
      rw [List.length_take, List.length_take] at this
      omega
    · unfold rowC at e
      have li := rowB_len hs h1 i
      have lj := rowB_len hs h1 j
      have el := congrArg List.length e
      rw [List.length_set, List.length_set] at el
      have par : i % 2 = j % 2 := by omega
      have eb : rowB sg c1 i = rowB sg c1 j := by unfold rowB; rw [par]
      have es : spotB sg c1 way i = spotB sg c1 way j := by unfold spotB; rw [eb]
      rw [eb, es] at e
      obtain ⟨s0, s1⟩ := spot_lt (way := way) hs h0 h1 j
      have hlt : (spotB sg c1 way j).toNat < (rowB sg c1 j).length := by omega
      have e2 := congrArg (fun l => l[(spotB sg c1 way j).toNat]?) e
      simp only [List.getElem?_set_self hlt] at e2
      have e3 := Option.some.inj e2
      have hb : 0 ≤ (rowB sg c1 j).getD (spotB sg c1 way j).toNat 0 := by
        rw [List.getD_eq_getElem?_getD, List.getElem?_eq_getElem hlt]
        exact (rowB_mem hv j _ (List.getElem_mem hlt)).1
      generalize (rowB sg c1 j).getD (spotB sg c1 way j).toNat 0 = b at e3 hb
      omega
/-- the names -/
def namesOf (sg : List Int) (c1 : Nat) (way : Int) (many : Nat) (n : Nat) : List Str := (List.range n).map fun k => nmOf (rowF sg c1 way many k)
theorem names_ok (hs : sg.length = 12) (hv : ∀ x ∈ sg, 0 ≤ x ∧ x < 36) (h0 : 1 ≤ c1) (h1 : c1 ≤ 11) (hm : many ≤ 16) : (namesOf sg c1 way many many).Nodup ∧ (∀ n ∈ namesOf sg c1 way many many, okName n) ∧ (namesOf sg c1 way many many).length = many := by
  refine ⟨?_, fun n hn => ?_, by unfold namesOf; rw [List.length_map, List.length_range]⟩
  · unfold namesOf
    refine List.pairwise_map.mpr ?_
    refine List.Pairwise.imp_of_mem ?_ (List.pairwise_lt_range (n := many))
    intro i j hi hj hij e
    have hj' := List.mem_range.mp hj
    have hi' := List.mem_range.mp hi
    exact rowF_ne hs hv h0 h1 hm hij hj' (nmOf_inj (rowF_ok hs hv h0 h1 hi').2.2 (rowF_ok hs hv h0 h1 hj').2.2 e)
  · obtain ⟨k, hk, rfl⟩ := List.mem_map.mp hn
    exact nmOf_ok (rowF_ok hs hv h0 h1 (List.mem_range.mp hk))
theorem namesOf_succ (n : Nat) : namesOf sg c1 way many (n + 1) = namesOf sg c1 way many n ++ [nmOf (rowF sg c1 way many n)] := by
  unfold namesOf
  rw [List.range_succ, List.map_append]
  rfl
end
end FP
/-! FJ -/
namespace FP
open PySem PySem.Spec PyProof.Rows L2 FM
/-- the script's cell, 0 behind its end -/
def cellAt (ns : List Int) (k : Nat) : Int := ns.getD k 0
def mixAt (ns : List Int) (k : Nat) (p : Int) : Int := cellAt ns k % 1000000007 * 48271 % p
theorem mixAt_range {ns : List Int} {k : Nat} {p : Int} (hp : 0 < p) : 0 ≤ mixAt ns k p ∧ mixAt ns k p < p := ⟨Int.emod_nonneg _ (by omega), Int.emod_lt_of_pos _ hp⟩
theorem int_at {ns : List Int} {k : Nat} (h : k < ns.length) : (ns.map V.int)[k]? = some (.int (cellAt ns k)) := by
  unfold cellAt
  rw [List.getElem?_map, List.getD_eq_getElem?_getD, List.getElem?_eq_getElem h]
  rfl
theorem slice_to {xs : List V} {j : Nat} : cutV xs none (some (j : Int)) = xs.take j := by
  unfold cutV
  rw [HT.sIx_none, HT.sIx_nat, List.drop_zero, Nat.sub_zero]
  by_cases h : j ≤ xs.length
  · rw [Nat.min_eq_left h]
  · rw [Nat.min_eq_right (by omega), List.take_length, List.take_of_length_le (by omega)]
theorem slice_from {xs : List V} {j : Nat} (h : j ≤ xs.length) : cutV xs (some (j : Int)) none = xs.drop j := by
  unfold cutV
  rw [HT.sIx_none, HT.sIx_nat, Nat.min_eq_left h]
  exact List.take_of_length_le (by rw [List.length_drop]; exact Nat.le_refl _)
theorem map_flat {n : Nat} {xs : List Int} : (List.replicate n (xs.map V.int)).flatten = ((List.replicate n xs).flatten).map V.int := by
  induction n with
  | zero => rfl
  | succ n ih =>
    rw [List.replicate_succ, List.replicate_succ, List.flatten_cons, List.flatten_cons, List.map_append, ih]
theorem ixN_nat {n : Nat} {i : Int} (h0 : 0 ≤ i) (h1 : i < n) : ixN n i = some i.toNat := by
  unfold ixN
  rw [if_pos h0, if_pos h1]
theorem atI_int {xs : List Int} {i : Int} (h0 : 0 ≤ i) (h1 : i < (xs.length : Int)) : atI (xs.map V.int) i = some (.int (xs.getD i.toNat 0)) := by
  unfold atI
  rw [List.length_map, ixN_nat h0 h1]
  show (xs.map V.int)[i.toNat]? = _
  rw [List.getElem?_map, List.getD_eq_getElem?_getD, List.getElem?_eq_getElem (by omega)]
  rfl
section
variable {P : Program} {w : World} {K : PySem.W.Frag} {mg : Str → Option Value} {base : Heap}
def spLcell (K : PySem.W.Frag) : Sp := fun vs H Q _ => ∃ (a : Addr) (ns : List Int) (k : Nat), vs = [.ref a, .int (k : Int)] ∧ SqL K H a (ns.map V.int) ∧ Q (.int (cellAt ns k)) H
theorem sc_lcell : FnScope ["_law_script", "_law_k"] ["_law_script", "_law_k"] (defScope st_lcell) := ⟨rfl, rfl, rfl, by decide +kernel, rfl, by decide +kernel, by decide +kernel⟩
theorem ok_lcell (T : Tx w K mg) : Ok P w K mg base 1 (He.ga K "_law_cell_at") ["_law_script", "_law_k"] (spLcell K) := by
  refine ok_of T.d_lcell sc_lcell (fun vs H Q E h => ?_) (fun _ _ _ _ _ _ us hl => match us, hl with | [_, _], _ => rfl) (fun cdv A outer s H vs Q E hr h => ?_)
  · obtain ⟨a, ns, k, rfl, _⟩ := h
    rfl
  · obtain ⟨a, ns, k, rfl, ha, q⟩ := h
    refine ⟨_, pss_cons (ps_if (pt_cmpR op_lt (pv 1) (pe_callB call_len_seq (by rfl) T.n_len PySem.boot_len (pa_cons (pv 0) pa_nil)) (nomark _)) (pss_one (ps_ret (pe_ix ix_list (pv 0) (pv 1) (fun _ _ => rfl)))) pss_nil)
      (pss_one (ps_ret pe_int)), ?_⟩
    refine ⟨_, rfl, _, rfl, a, _, rfl, .inl ha, _, _, rfl, rfl, _, rfl, ?_⟩
    by_cases h : k < ns.length
    · rw [decide_eq_true (show (k : Int) < ((ns.map V.int).length : Int) by rw [List.length_map]; omega)]
      refine iteT ?_
      exact ⟨_, rfl, _, rfl, a, _, _, _, rfl, rfl, ha, atI_nat (int_at h), q⟩
    · rw [decide_eq_false (show ¬ (k : Int) < ((ns.map V.int).length : Int) by rw [List.length_map]; omega)]
      refine iteF ?_
      have e : cellAt ns k = 0 := by
        unfold cellAt
        rw [List.getD_eq_getElem?_getD, List.getElem?_eq_none (by omega)]
        rfl
      rw [e] at q
      exact q
def spLmix (K : PySem.W.Frag) : Sp := fun vs H Q _ => ∃ (a : Addr) (ns : List Int) (k : Nat) (p : Int), vs = [.ref a, .int (k : Int), .int p] ∧ SqL K H a (ns.map V.int) ∧ 0 < p ∧ Q (.int (mixAt ns k p)) H
theorem sc_lmix : FnScope ["_law_script", "_law_k", "_law_prime"] ["_law_script", "_law_k", "_law_prime"] (defScope st_lmix) := ⟨rfl, rfl, rfl, by decide +kernel, rfl, by decide +kernel, by decide +kernel⟩
theorem ok_lmix (T : Tx w K mg) : Ok P w K mg base 2 (He.ga K "_law_mix") ["_law_script", "_law_k", "_law_prime"] (spLmix K) := by
  obtain ⟨fdC, GC, kC, bC⟩ := ok_lcell (P := P) (base := base) T
  refine ok_of T.d_lmix sc_lmix (fun vs H Q E h => ?_) (fun _ _ _ _ _ _ us hl => match us, hl with | [_, _, _], _ => rfl) (fun cdv A outer s H vs Q E hr h => ?_)
  · obtain ⟨a, ns, k, p, rfl, _⟩ := h
    rfl
  · obtain ⟨a, ns, k, p, rfl, ha, hp, q⟩ := h
    refine ⟨_, pss_one (ps_ret (pe_op op_mod (pe_op op_mul (pe_op op_mod (pe_call GC hr rfl T.g__law_cell_at kC bC .nil pass0 (pa_cons (pv 0) (pa_cons (pv 1) pa_nil))) pe_int) pe_int) (pv 2))), ?_⟩
    have h1 := Int.emod_nonneg (cellAt ns k) (show (1000000007 : Int) ≠ 0 by decide)
    have h2 := Int.emod_lt_of_pos (cellAt ns k) (show (0 : Int) < 1000000007 by decide)
    exact ⟨_, rfl, _, rfl, a, ns, k, rfl, ha, _, _, rfl, rfl, (by show (0 : Int) < 1000000007; decide), _, _, rfl, rfl, .inl ⟨by omega, by omega⟩, _, rfl, _, _, rfl, rfl, hp, q⟩
end
end FP
/-! FK -/
namespace FP
open PySem PySem.Spec PyProof.Rows L2 FM
abbrev nN : List Str := ["_law_script", "_law_at", "_law_many", "_law_some", "_law_cell", "_law_signs", "_law_way", "_law_names_here", "_law_k", "_law_row", "_law_spot", "_law_j", "_law_x"]
/-- the slots within the loop -/
abbrev nSt (a : Addr) (at_ many : Nat) (cell : Int) (g : Addr) (way : Int) (l : Addr) (k r sp : Option V) : L2.St :=
  [some (.ref a), some (.int (at_ : Int)), some (.int (many : Int)), some (.str SIGNS), some (.int cell), some (.ref g), some (.int way), some (.ref l), k, r, sp, none, none]
/-- the twelve places among the signs that a cell tells -/
def sgOf (cell : Int) (n : Nat) : List Int := (List.range n).map fun (j : Nat) => (cell * 16807 + 7919 * (j : Int) * (j : Int)) % 65521 % 36
theorem sgOf_len (cell : Int) (n : Nat) : (sgOf cell n).length = n := by unfold sgOf; rw [List.length_map, List.length_range]
theorem sgOf_mem {cell : Int} {n : Nat} : ∀ x ∈ sgOf cell n, 0 ≤ x ∧ x < 36 := by
  intro x hx
  obtain ⟨j, _, rfl⟩ := List.mem_map.mp hx
  exact ⟨Int.emod_nonneg _ (by decide), Int.emod_lt_of_pos _ (by decide)⟩
theorem sgOf_succ (cell : Int) (n : Nat) : sgOf cell (n + 1) = sgOf cell n ++ [(cell * 16807 + 7919 * (n : Int) * (n : Int)) % 65521 % 36] := by
  unfold sgOf
  rw [List.range_succ, List.map_append]
  rfl
def cellOf (ns : List Int) (at_ : Nat) : Int := cellAt ns at_ % 1000000007
section
variable {P : Program} {w : World} {K : PySem.W.Frag} {mg : Str → Option Value} {base : Heap}
def spLnames (K : PySem.W.Frag) : Sp := fun vs H Q _ => ∃ (a : Addr) (ns : List Int) (at_ many : Nat), vs = [.ref a, .int (at_ : Int), .int (many : Int)] ∧ SqL K H a (ns.map V.int) ∧ many ≤ 16 ∧
  ∀ H' l xs, Same H H' → H l = none → H' l = some (.lst (sV xs)) → xs.Nodup → (∀ x ∈ xs, okName x) → xs.length = many → Q (.ref l) H'
theorem sc_lnames : FnScope nN ["_law_script", "_law_at", "_law_many"] (defScope st_lnames) := ⟨rfl, rfl, rfl, by decide +kernel, rfl, by decide +kernel, by decide +kernel⟩
theorem ok_lnames (T : Tx w K mg) : Ok P w K mg base 3 (He.ga K "_law_names") ["_law_script", "_law_at", "_law_many"] (spLnames K) := by
  obtain ⟨fdC, GC, kC, bC⟩ := ok_lcell (P := P) (base := base) T
  obtain ⟨fdM, GM, kM, bM⟩ := ok_lmix (P := P) (base := base) T
  refine ok_of T.d_lnames sc_lnames (fun vs H Q E h => ?_) (fun _ _ _ _ _ _ us hl => match us, hl with | [_, _, _], _ => rfl) (fun cdv A outer s H vs Q E hr h => ?_)
  · obtain ⟨a, ns, at_, many, rfl, _⟩ := h
    rfl
  · obtain ⟨a, ns, at_, many, rfl, ha, hm, k⟩ := h
    refine ⟨_, pss_cons (ps_set (i := 3) sc_lnames.nd rfl (Or.inr rfl) pe_str)
      (pss_cons (ps_set (i := 4) sc_lnames.nd rfl (Or.inr rfl) (pe_op op_mod (pe_call GC (hr.mono (by decide)) rfl T.g__law_cell_at kC bC .nil pass0 (pa_cons (pv 0) (pa_cons (pv 1) pa_nil))) pe_int))
      (pss_cons (ps_setLc (i := 5) (own := [("_law_j", 11)]) (g := gName 11) rfl sc_lnames.nd rfl rfl (sw_true rfl rfl rfl (by decide +kernel)) (pi_range1 (by rfl) T.n_range (pa_cons pe_int pa_nil)) (blkOk_by (N := nN) (sc := defScope st_lnames) (by decide +kernel))
        (fun _ _ _ _ _ => pg_name (i := 11) sc_lnames.nd rfl (Or.inl rfl)) (fun _ _ _ _ _ => pts_nil)
        (fun _ _ _ _ _ => pe_op op_mod (pe_op op_mod (pe_op op_add (pe_op op_mul (pv 4) pe_int) (pe_op op_mul (pe_op op_mul pe_int (pv 11)) (pv 11))) pe_int) pe_int))
      (pss_cons (ps_set (i := 6) sc_lnames.nd rfl (Or.inl rfl) (pe_call GM hr rfl T.g__law_mix kM bM .nil pass0 (pa_cons (pv 0) (pa_cons (pe_op op_add (pv 1) pe_int) (pa_cons pe_int pa_nil)))))
      (pss_cons (ps_set (i := 7) sc_lnames.nd rfl (Or.inl rfl) (pe_lst pa_nil))
      (pss_cons (ps_for PassesOwn.never rfl (pi_range1 (by rfl) T.n_range (pa_cons (pv 2) pa_nil)) (pg_name (i := 8) sc_lnames.nd rfl (Or.inl rfl))
        (pss_cons (ps_set (i := 9) sc_lnames.nd rfl (Or.inl rfl) (pe_op op_cat (pe_callTy call_list_of (by rfl) T.n_list (by decide +kernel) (pa_cons (pe_slice sl_list (pv 5) po_none (po_some (pe_op op_add pe_int (pe_op op_mod (pv 4) pe_int)))) pa_nil))
            (pe_op op_rep (pe_slice sl_list (pv 5) (po_some pe_int) po_none) (pe_op op_mod (pv 8) pe_int))))
        (pss_cons (ps_set (i := 10) sc_lnames.nd rfl (Or.inl rfl) (pe_op op_mod (pe_op op_fdiv (pv 6) pe_int) (pe_callB call_len_seq (by rfl) T.n_len PySem.boot_len (pa_cons (pv 9) pa_nil))))
        (pss_cons (ps_asg (pe_op op_mod (pe_op op_add (pe_ix ix_list (pv 9) (pv 10) (fun _ _ => rfl)) (pv 8)) pe_int) (pg_sub (pv 9) (pv 10) set_list))
        (Evl.pss_cut (ps_if (PW.pt (pw_and (pt_cmpR op_eq (pe_op op_mod (pv 6) pe_int) pe_int (nomark _)) (pw_and1 (pt_cmpR op_le (pv 2) pe_int (nomark _))))) (pss_one (ps_set (i := 9) sc_lnames.nd rfl (Or.inl rfl) (pe_slice sl_list (pv 5) po_none (po_some (pe_op op_add pe_int (pv 8)))))) pss_nil)
        (Evl.pss_cut (ps_if (PW.pt (pw_and (pt_cmpR op_eq (pe_op op_mod (pv 6) pe_int) pe_int (nomark _)) (pw_and1 (pt_cmpR op_le (pv 2) pe_int (nomark _))))) (pss_one (ps_set (i := 9) sc_lnames.nd rfl (Or.inl rfl) (pe_slice sl_list (pv 5) po_none (po_some (pe_op op_sub (pv 2) (pv 8)))))) pss_nil)
        (pss_one (ps_expr (pe_bm PySem.F.plainAttrs_list PySem.F.slot_list_append PySem.F.type_list_append mt_append (pv 7) (pa_cons (pe_join pe_str
          (pe_lc (own := [("_law_x", 12)]) (g := gName 12) rfl sc_lnames.nd (pi_list (pv 9)) (blkOk_by (N := nN) (sc := defScope st_lnames) (by decide +kernel)) (fun _ _ _ _ _ => pg_name (i := 12) sc_lnames.nd rfl (Or.inl rfl)) (fun _ _ _ _ _ => pts_nil)
            (fun _ _ _ _ _ => pe_ix ix_str (pv 3) (pv 12) (fun _ _ => rfl)))) pa_nil))))))))))
      (pss_one (ps_ret (pv 7)))))))), ?_⟩
    -- the cell
    refine ⟨_, rfl, _, rfl, a, ns, at_, rfl, ha, _, _, rfl, rfl, (by show (0 : Int) < 1000000007; decide), ?_⟩
    have c0 : 0 ≤ cellOf ns at_ := Int.emod_nonneg (cellAt ns at_) (show (1000000007 : Int) ≠ 0 by decide)
    have c1 : cellOf ns at_ < 1000000007 := Int.emod_lt_of_pos (cellAt ns at_) (show (0 : Int) < 1000000007 by decide)
    have wide : -(2 ^ 64) < cellOf ns at_ ∧ cellOf ns at_ < 2 ^ 64 := ⟨by omega, by omega⟩
    -- the signs
    refine ⟨12, rfl, by decide, by decide, fun g hg => ?_⟩
    refine lc_range (lo := 0) (n := 12) (fun i H' => Same H H' ∧ H' g = some (.lst ((sgOf (cellOf ns at_) i).map V.int))) ⟨same_new hg, upd_same⟩ ?_ ?_
    · rintro i H1 hi ⟨s1, h1⟩
      refine ⟨rfl, ?_⟩
      refine ⟨_, rfl, _, _, rfl, rfl, .inl wide, _, rfl, _, _, rfl, rfl, .inl ⟨by omega, by omega⟩, _, rfl, _, _, rfl, rfl, .inl ⟨by omega, by omega⟩, _, _, rfl, rfl, _, _, rfl, rfl, (by show (0 : Int) < 65521; decide), _, _, rfl, rfl, (by show (0 : Int) < 36; decide), ?_⟩
      refine ⟨_, h1, ?_, same_mut s1 hg, ?_⟩
      · rw [List.length_map, sgOf_len]
        exact small1000 (by omega)
      · rw [upd_same, sgOf_succ, List.map_append, Int.zero_add]
        rfl
    rintro H1 ⟨s1, hgs⟩
    have hS : (sgOf (cellOf ns at_) 12).length = 12 := sgOf_len _ _
    have hV : ∀ x ∈ sgOf (cellOf ns at_) 12, 0 ≤ x ∧ x < 36 := sgOf_mem
    generalize sgOf (cellOf ns at_) 12 = sg at hgs hS hV
    have ha1 : SqL K H1 a (ns.map V.int) := s1.seq ha
    -- the way
    refine ⟨_, rfl, _, rfl, _, _, rfl, rfl, a, ns, at_ + 1, 65537, rfl, ha1, by decide, ?_⟩
    obtain ⟨w0, w1⟩ := mixAt_range (ns := ns) (k := at_ + 1) (p := 65537) (by decide)
    generalize mixAt ns (at_ + 1) 65537 = way at w0 w1
    refine ⟨Nat.zero_le _, fun l hl => ?_⟩
    have l0 : H l = none := s1.free hl
    have s2 : Same H1 (upd H1 l (.lst [])) := same_new hl
    have cc1 : (1 + cellOf ns at_ % 11) = (((1 + cellOf ns at_ % 11).toNat : Nat) : Int) := by
      have := Int.emod_nonneg (cellOf ns at_) (show (11 : Int) ≠ 0 by decide)
      omega
    have cb : 1 ≤ (1 + cellOf ns at_ % 11).toNat ∧ (1 + cellOf ns at_ % 11).toNat ≤ 11 := by
      have := Int.emod_nonneg (cellOf ns at_) (show (11 : Int) ≠ 0 by decide)
      have := Int.emod_lt_of_pos (cellOf ns at_) (show (0 : Int) < 11 by decide)
      omega
    generalize (1 + cellOf ns at_ % 11).toNat = c1' at cc1 cb
    refine ⟨_, rfl, (many : Int), rfl, by omega, by omega, ?_⟩
    rw [Int.toNat_natCast]
    refine for_range (lo := 0) (n := many) (fun i σ H' => ∃ k r sp, σ = nSt a at_ many (cellOf ns at_) g way l k r sp ∧ Same H1 H' ∧ H' l = some (.lst (sV (namesOf sg c1' way many i)))) ⟨none, none, none, rfl, s2, upd_same⟩ ?_ ?_
    · rintro i σ H2 hi ⟨k0, r0, sp0, rfl, s3, h2l⟩
      have hg2 := s3 _ _ hgs
      have lg : (sg.map V.int).length = 12 := by rw [List.length_map]; exact hS
      rw [Int.zero_add]
      -- row
      refine ⟨_, rfl, _, rfl, _, _, rfl, rfl, (by show (0 : Int) < 11; decide), _, _, rfl, rfl, _, rfl, g, _, rfl, SqL.of hg2, fun p1 n1 => ?_⟩
      rw [cc1, slice_to]
      refine ⟨p1, _, rfl, .inl (SqL.of upd_same), fun p2 n2 => ?_⟩
      have s4 : Same H2 (upd (upd H2 p1 (.lst ((sg.map V.int).take c1'))) p2 (.lst ((sg.map V.int).take c1'))) := (same_new n1).trans (same_new n2)
      have h4 : (upd (upd H2 p1 (.lst ((sg.map V.int).take c1'))) p2 (.lst ((sg.map V.int).take c1'))) p2 = some (.lst ((sg.map V.int).take c1')) := upd_same
      revert s4 h4
      generalize (upd (upd H2 p1 (.lst ((sg.map V.int).take c1'))) p2 (.lst ((sg.map V.int).take c1'))) = H4
      intro s4 h4
      refine ⟨_, rfl, 11, rfl, g, _, rfl, SqL.of (s4 _ _ hg2), fun p3 n3 => ?_⟩
      have e11 : cutV (sg.map V.int) (some (11 : Int)) none = (sg.map V.int).drop 11 := slice_from (j := 11) (by omega)
      rw [e11]
      have ek : ((i : Int) % 2) = ((i % 2 : Nat) : Int) := by omega
      refine ⟨_, rfl, _, _, rfl, rfl, (by show (0 : Int) < 2; decide), p3, _, _, rfl, rfl, upd_same, by omega, by omega, ?_, fun p4 n4 => ?_⟩
      · rw [ek, Int.toNat_natCast, List.length_drop, lg]
        have : i % 2 ≤ 1 := by omega
        exact Nat.le_trans (Nat.mul_le_mul_left 1 this) (by decide)
      rw [ek, Int.toNat_natCast]
      have s5 : Same H4 (upd (upd H4 p3 (.lst ((sg.map V.int).drop 11))) p4 (.lst (List.replicate (i % 2) ((sg.map V.int).drop 11)).flatten)) := (same_new n3).trans (same_new n4)
      have h5 : (upd (upd H4 p3 (.lst ((sg.map V.int).drop 11))) p4 (.lst (List.replicate (i % 2) ((sg.map V.int).drop 11)).flatten)) p4 = some (.lst (List.replicate (i % 2) ((sg.map V.int).drop 11)).flatten) := upd_same
      revert s5 h5
      generalize (upd (upd H4 p3 (.lst ((sg.map V.int).drop 11))) p4 (.lst (List.replicate (i % 2) ((sg.map V.int).drop 11)).flatten)) = H5
      intro s5 h5
      have eB : (sg.map V.int).take c1' ++ (List.replicate (i % 2) ((sg.map V.int).drop 11)).flatten = (rowB sg c1' i).map V.int := by
        unfold rowB
        rw [List.map_append, ← map_flat, List.map_take, List.map_drop]
      have lB := rowB_len hS cb.2 i
      refine ⟨p2, p4, _, _, rfl, rfl, s5 _ _ h4, h5, ?_, fun r n6 => ?_⟩
      · have := congrArg List.length eB
        rw [List.length_append, List.length_map] at this
        rw [this]
        exact Nat.le_of_lt (small1000 (by omega))
      rw [eB]
      have s6 : Same H2 (upd H5 r (.lst ((rowB sg c1' i).map V.int))) := (s4.trans s5).trans (same_new n6)
      have r2 : H2 r = none := (s4.trans s5).free n6
      have h6 : (upd H5 r (.lst ((rowB sg c1' i).map V.int))) r = some (.lst ((rowB sg c1' i).map V.int)) := upd_same
      revert s6 h6
      generalize (upd H5 r (.lst ((rowB sg c1' i).map V.int))) = H6
      intro s6 h6
      -- spot
      obtain ⟨sp0', sp1'⟩ := spot_lt (way := way) hS cb.1 cb.2 i
      refine ⟨_, rfl, _, _, rfl, rfl, ⟨by decide, by decide⟩, _, rfl, r, _, rfl, .inl (SqL.of h6), _, _, rfl, rfl, (by rw [List.length_map]; omega), ?_⟩
      have eS : way / 4 % (((rowB sg c1' i).map V.int).length : Int) = spotB sg c1' way i := by
        unfold spotB
        rw [List.length_map]
      -- row[spot] = ..
      refine ⟨_, rfl, _, rfl, r, _, _, _, rfl, rfl, SqL.of h6, (by show atI ((rowB sg c1' i).map V.int) (way / 4 % (((rowB sg c1' i).map V.int).length : Int)) = some (V.int ((rowB sg c1' i).getD (spotB sg c1' way i).toNat 0)); rw [eS]; exact atI_int sp0' sp1'), _, rfl, _, _, rfl, rfl, _, _, rfl, rfl, (by show (0 : Int) < 36; decide), ?_⟩
      refine ⟨_, rfl, _, rfl, r, _, _, _, rfl, rfl, h6, (by show ixN ((rowB sg c1' i).map V.int).length (way / 4 % (((rowB sg c1' i).map V.int).length : Int)) = some (spotB sg c1' way i).toNat; rw [eS]; exact ixN_nat sp0' (by rw [List.length_map]; exact sp1')), ?_⟩
      have s7 : Same H2 (upd H6 r (.lst (((rowB sg c1' i).map V.int).set (spotB sg c1' way i).toNat (.int (((rowB sg c1' i).getD (spotB sg c1' way i).toNat 0 + (i : Int)) % 36))))) := same_mut s6 r2
      have h7 : (upd H6 r (.lst (((rowB sg c1' i).map V.int).set (spotB sg c1' way i).toNat (.int (((rowB sg c1' i).getD (spotB sg c1' way i).toNat 0 + (i : Int)) % 36))))) r = some (.lst ((rowC sg c1' way i).map V.int)) := by
        rw [upd_same]
        unfold rowC
        rw [List.map_set]
      revert s7 h7
      generalize (upd H6 r (.lst (((rowB sg c1' i).map V.int).set (spotB sg c1' way i).toNat (.int (((rowB sg c1' i).getD (spotB sg c1' way i).toNat 0 + (i : Int)) % 36))))) = H7
      intro s7 h7
      -- the first if
      refine ⟨fun σ' H' => ∃ r sp, σ' = nSt a at_ many (cellOf ns at_) g way l (some (.int (i : Int))) (some (.ref r)) sp ∧ Same H2 H' ∧ H' r = some (.lst ((if way % 4 = 1 ∧ many ≤ 12 then sg.take (1 + i) else rowC sg c1' way i).map V.int)), ?_, ?_⟩
      · refine ⟨_, rfl, _, _, rfl, rfl, (by show (0 : Int) < 4; decide), rfl, _, rfl, ?_⟩
        by_cases e1 : way % 4 = 1
        · rw [decide_eq_true (show V.int (way % 4) = V.int 1 by rw [e1])]
          refine iteT ?_
          refine ⟨_, rfl, _, _, rfl, rfl, _, rfl, ?_⟩
          by_cases e2 : many ≤ 12
          · rw [decide_eq_true (show (many : Int) ≤ 12 by omega)]
            refine iteT ?_
            refine ⟨_, rfl, _, rfl, _, _, rfl, rfl, _, rfl, g, _, rfl, SqL.of (s7 _ _ hg2), fun q nq => ?_⟩
            have eq1 : (1 + (i : Int)) = ((1 + i : Nat) : Int) := by omega
            rw [eq1, slice_to]
            refine ⟨q, _, rfl, s7.trans (same_new nq), ?_⟩
            rw [upd_same, if_pos ⟨e1, e2⟩, List.map_take]
          · rw [decide_eq_false (show ¬ (many : Int) ≤ 12 by omega)]
            refine iteF ⟨r, _, rfl, s7, ?_⟩
            rw [if_neg (fun z => e2 z.2)]
            exact h7
        · rw [decide_eq_false (show ¬ V.int (way % 4) = V.int 1 from fun z => e1 (V.int.inj z))]
          refine iteF (iteF ⟨r, _, rfl, s7, ?_⟩)
          rw [if_neg (fun z => e1 z.1)]
          exact h7
      clear s7 h7
      rintro σ8 H8 ⟨r8, sp8, rfl, s8, h8⟩
      -- the second if
      refine ⟨fun σ' H' => ∃ r sp, σ' = nSt a at_ many (cellOf ns at_) g way l (some (.int (i : Int))) (some (.ref r)) sp ∧ Same H2 H' ∧ H' r = some (.lst ((rowF sg c1' way many i).map V.int)), ?_, ?_⟩
      · refine ⟨_, rfl, _, _, rfl, rfl, (by show (0 : Int) < 4; decide), rfl, _, rfl, ?_⟩
        by_cases e1 : way % 4 = 2
        · rw [decide_eq_true (show V.int (way % 4) = V.int 2 by rw [e1])]
          refine iteT ?_
          refine ⟨_, rfl, _, _, rfl, rfl, _, rfl, ?_⟩
          by_cases e2 : many ≤ 12
          · rw [decide_eq_true (show (many : Int) ≤ 12 by omega)]
            refine iteT ?_
            refine ⟨_, rfl, _, rfl, _, rfl, _, _, rfl, rfl, _, rfl, g, _, rfl, SqL.of (s8 _ _ hg2), fun q nq => ?_⟩
            have eq1 : ((many : Int) - (i : Int)) = ((many - i : Nat) : Int) := by omega
            rw [eq1, slice_to]
            refine ⟨q, _, rfl, s8.trans (same_new nq), ?_⟩
            unfold rowF
            rw [upd_same, if_pos ⟨e1, e2⟩, List.map_take]
          · rw [decide_eq_false (show ¬ (many : Int) ≤ 12 by omega)]
            refine iteF ⟨r8, _, rfl, s8, ?_⟩
            unfold rowF
            rw [if_neg (fun z => e2 z.2)]
            exact h8
        · rw [decide_eq_false (show ¬ V.int (way % 4) = V.int 2 from fun z => e1 (V.int.inj z))]
          refine iteF (iteF ⟨r8, _, rfl, s8, ?_⟩)
          unfold rowF
          rw [if_neg (fun z => e1 z.1)]
          exact h8
      clear s8 h8
      rintro σ9 H9 ⟨r9, sp9, rfl, s9, h9⟩
      have rok := rowF_ok (way := way) (many := many) hS hV cb.1 cb.2 hi
      obtain ⟨ro1, ro2, ro3⟩ := rok
      -- the name
      refine ⟨_, rfl, .inl ⟨rfl, _, SqL.of (s9 _ _ h2l)⟩, ⟨_, rfl⟩, _, rfl, r9, rfl, ⟨_, SqL.of h9⟩, fun D nD => ?_⟩
      refine lc_list (K := K) (a := r9) (xs := (rowF sg c1' way many i).map V.int) (fun j H' => Same H9 H' ∧ H' D = some (.lst (sV (((rowF sg c1' way many i).take j).map sgS)))) ⟨same_new nD, upd_same⟩ (fun j H' _ q => SqL.of (q.1 _ _ h9)) ?_ ?_
      · rintro j x H10 hj ⟨s10, h10⟩
        rw [List.getElem?_map] at hj
        obtain ⟨y, hy, rfl⟩ := Option.map_eq_some_iff.mp hj
        have hym := ro3 y (List.mem_of_getElem? hy)
        have hjl := (List.getElem?_eq_some_iff.mp hy).1
        refine ⟨rfl, ?_⟩
        have hat : atI SIGNS.cps.toList y = some (sgAt y) := by
          unfold atI
          have hl : SIGNS.cps.toList.length = 36 := sgC_len
          rw [hl, ixN_nat hym.1 (by omega)]
          show SIGNS.cps.toList[y.toNat]? = some (sgC.getD y.toNat 0)
          have hlt : y.toNat < SIGNS.cps.toList.length := by rw [hl]; omega
          rw [List.getElem?_eq_getElem hlt]
          unfold sgC
          rw [List.getD_eq_getElem?_getD, List.getElem?_eq_getElem hlt]
          rfl
        refine ⟨_, rfl, _, rfl, SIGNS, y, sgAt y, rfl, rfl, (by decide +kernel), hat, ?_⟩
        refine ⟨_, h10, ?_, same_mut s10 nD, ?_⟩
        · rw [sV_len, List.length_map, List.length_take]
          exact small1000 (by omega)
        · rw [upd_same, take_next hy, List.map_append]
          simp [sV, sgS]
      · rintro H10 ⟨s10, h10⟩
        rw [List.length_map, List.take_length] at h10
        refine ⟨_, D, (rowF sg c1' way many i).map sgS, rfl, rfl, .inl (SqL.of h10), ?_, ?_⟩
        · have e : (((rowF sg c1' way many i).map sgS).map (·.length)).sum = (rowF sg c1' way many i).length := by
            generalize rowF sg c1' way many i = q
            induction q with
            | nil => rfl
            | cons x q ih =>
              rw [List.map_cons, List.map_cons, List.sum_cons, ih]
              show 1 + q.length = q.length + 1
              omega
          have e0 : ("" : Str).length = 0 := by decide +kernel
          rw [e, e0]
          omega
        · have hl9 : H9 l = some (.lst (sV (namesOf sg c1' way many i))) := s9 _ _ h2l
          refine ⟨l, _, _, rfl, rfl, s10 _ _ hl9, ?_, ?_⟩
          · rw [sV_len]
            unfold namesOf
            rw [List.length_map, List.length_range]
            exact small1000 (by omega)
          · refine ⟨_, _, _, rfl, ?_, ?_⟩
            · exact same_mut ((s3.trans s9).trans s10) hl
            · rw [upd_same, namesOf_succ]
              simp [sV, nmOf]
    · rintro σ H2 ⟨k0, r0, sp0, rfl, s3, h2l⟩
      obtain ⟨nd, ok, len⟩ := names_ok (way := way) (many := many) hS hV cb.1 cb.2 hm
      exact ⟨_, rfl, k H2 l _ (s1.trans s3) l0 h2l nd ok len⟩
end
end FP
/-! FL2 -/
namespace FP
open PySem PySem.Spec PyProof.Rows L2 FM
theorem atI_str {xs : List Str} {i : Int} (h0 : 0 ≤ i) (h1 : i < (xs.length : Int)) : ∃ y ∈ xs, atI (sV xs) i = some (.str y) := by
  have hl : i.toNat < xs.length := by omega
  refine ⟨xs[i.toNat], List.getElem_mem hl, ?_⟩
  unfold atI
  rw [sV_len, ixN_nat h0 h1]
  show (sV xs)[i.toNat]? = _
  rw [List.getElem?_map, List.getElem?_eq_getElem hl]
  rfl
def FAR : Int := 200000000
/-- ways between these places -/
def GoodW (ps : List Str) (ws : List Way) : Prop := ∀ e ∈ ws, (e.1 ∈ ps ∧ e.2.1 ∈ ps) ∧ 1 ≤ e.2.2 ∧ e.2.2 ≤ FAR
theorem GoodW.snoc {ps : List Str} {ws : List Way} (g : GoodW ps ws) {e : Way} (h : (e.1 ∈ ps ∧ e.2.1 ∈ ps) ∧ 1 ≤ e.2.2 ∧ e.2.2 ≤ FAR) : GoodW ps (ws ++ [e]) := fun x hx => by
  rcases List.mem_append.mp hx with hx | hx
  · exact g x hx
  · rw [List.mem_singleton.mp hx]
    exact h
/-- one more tuple at the list's end -/
theorem lstT_snoc {β : Type} {enc : β → List V} {H H1 : Hp} {l t : Addr} {ps : List Addr} {bs : List β} {b : β} (hl : H l = some (.lst (ps.map V.ref))) (tp : Tups enc H ps bs) (s : Same H H1) (ht : H t = none) (h1 : H1 t = some (.tup (enc b))) :
    LstT enc (upd H1 l (.lst (ps.map V.ref ++ [V.ref t]))) l (bs ++ [b]) := by
  refine ⟨ps ++ [t], by rw [upd_same, List.map_append]; rfl, ?_⟩
  have ne : ∀ q u, H1 q = some (.tup u) → q ≠ l := by
    rintro q u e rfl
    rw [s _ _ hl] at e
    cases e
  have tp1 : Tups enc (upd H1 l (.lst (ps.map V.ref ++ [V.ref t]))) ps bs := ⟨tp.1, fun i p c e1 e2 => by
    have := s _ _ (tp.2 i p c e1 e2)
    rw [upd_ne (ne p _ this)]
    exact this⟩
  exact tp1.snoc (by rw [upd_ne (ne t _ h1)]; exact h1)
section
variable {P : Program} {w : World} {K : PySem.W.Frag} {mg : Str → Option Value} {base : Heap}
def spLways (K : PySem.W.Frag) : Sp := fun vs H Q _ => ∃ (a n : Addr) (ns : List Int) (at_ : Nat) (ps : List Str), vs = [.ref a, .int (at_ : Int), .ref n] ∧ SqL K H a (ns.map V.int) ∧ H n = some (.lst (sV ps)) ∧ 2 ≤ ps.length ∧ ps.length ≤ 5 ∧
  ∀ H' l ws, Same H H' → H l = none → LstT wV H' l ws → ws.length ≤ 14 → GoodW ps ws → Q (.ref l) H'
theorem sc_lways : FnScope ["_law_script", "_law_at", "_law_names_here", "_law_many", "_law_far", "_law_ways_here", "_law_k", "_law_cell"] ["_law_script", "_law_at", "_law_names_here"] (defScope st_lways) := ⟨rfl, rfl, rfl, by decide +kernel, rfl, by decide +kernel, by decide +kernel⟩
theorem ok_lways (T : Tx w K mg) : Ok P w K mg base 3 (He.ga K "_law_ways") ["_law_script", "_law_at", "_law_names_here"] (spLways K) := by
  obtain ⟨fdC, GC, kC, bC⟩ := ok_lcell (P := P) (base := base) T
  obtain ⟨fdM, GM, kM, bM⟩ := ok_lmix (P := P) (base := base) T
  refine ok_of T.d_lways sc_lways (fun vs H Q E h => ?_) (fun _ _ _ _ _ _ us hl => match us, hl with | [_, _, _], _ => rfl) (fun cdv A outer s H vs Q E hr h => ?_)
  · obtain ⟨a, n, ns, at_, ps, rfl, _⟩ := h
    rfl
  · obtain ⟨a, n, ns, at_, ps, rfl, ha, hn, h2, h5, k⟩ := h
    refine ⟨_, pss_cons (ps_set (i := 3) sc_lways.nd rfl (Or.inl rfl) (pe_callB call_len_seq (by rfl) T.n_len PySem.boot_len (pa_cons (pv 2) pa_nil)))
      (pss_cons (ps_set (i := 4) sc_lways.nd rfl (Or.inl rfl) (pe_ix ix_list (pe_lst (pa_cons pe_int (pa_cons pe_int (pa_cons pe_int (pa_cons (pe_op op_mul pe_int (pe_op op_pow pe_int pe_int)) pa_nil)))))
        (pe_op op_mod (pe_call GM hr rfl T.g__law_mix kM bM .nil pass0 (pa_cons (pv 0) (pa_cons (pv 1) (pa_cons pe_int pa_nil)))) pe_int) (fun _ _ => rfl)))
      (pss_cons (ps_set (i := 5) sc_lways.nd rfl (Or.inl rfl) (pe_lst pa_nil))
      (Evl.pss_cut (ps_if (pt_cmpR op_gt (pe_op op_mod (pe_call GM hr rfl T.g__law_mix kM bM .nil pass0 (pa_cons (pv 0) (pa_cons (pe_op op_add (pv 1) pe_int) (pa_cons pe_int pa_nil)))) pe_int) pe_int (nomark _))
        (pss_one (ps_for PassesOwn.never rfl (pi_range1 (by rfl) T.n_range (pa_cons (pv 3) pa_nil)) (pg_name (i := 6) sc_lways.nd rfl (Or.inl rfl))
          (pss_one (ps_expr (pe_bm PySem.F.plainAttrs_list PySem.F.slot_list_append PySem.F.type_list_append mt_append (pv 5) (pa_cons (pe_tup (pa_cons (pe_ix ix_list (pv 2) (pv 6) (fun _ _ => rfl))
            (pa_cons (pe_ix ix_list (pv 2) (pe_op op_mod (pe_op op_add (pv 6) pe_int) (pv 3)) (fun _ _ => rfl))
            (pa_cons (pe_op op_add pe_int (pe_op op_mod (pe_call GM hr rfl T.g__law_mix kM bM .nil pass0 (pa_cons (pv 0) (pa_cons (pe_op op_add (pv 1) (pv 6)) (pa_cons pe_int pa_nil)))) (pv 4))) pa_nil)))) pa_nil)))))) pss_nil)
      (pss_cons (ps_for PassesOwn.never rfl (pi_range1 (by rfl) T.n_range (pa_cons (pe_op op_mod (pe_call GM hr rfl T.g__law_mix kM bM .nil pass0 (pa_cons (pv 0) (pa_cons (pe_op op_add (pv 1) pe_int) (pa_cons pe_int pa_nil)))) pe_int) pa_nil)) (pg_name (i := 6) sc_lways.nd rfl (Or.inl rfl))
        (pss_cons (ps_set (i := 7) sc_lways.nd rfl (Or.inl rfl) (pe_call GC (hr.mono (by decide)) rfl T.g__law_cell_at kC bC .nil pass0 (pa_cons (pv 0) (pa_cons (pe_op op_add (pv 1) (pv 6)) pa_nil))))
        (pss_one (ps_expr (pe_bm PySem.F.plainAttrs_list PySem.F.slot_list_append PySem.F.type_list_append mt_append (pv 5) (pa_cons (pe_tup (pa_cons (pe_ix ix_list (pv 2) (pe_op op_mod (pv 7) (pv 3)) (fun _ _ => rfl))
            (pa_cons (pe_ix ix_list (pv 2) (pe_op op_mod (pe_op op_fdiv (pv 7) (pv 3)) (pv 3)) (fun _ _ => rfl))
            (pa_cons (pe_op op_add pe_int (pe_op op_mod (pe_op op_fdiv (pv 7) pe_int) (pv 4))) pa_nil)))) pa_nil))))))
      (pss_one (ps_ret (pv 5))))))), ?_⟩
    have lps : (sV ps).length = ps.length := sV_len ps
    refine ⟨_, rfl, n, _, rfl, .inl (SqL.of hn), ?_⟩
    rw [lps]
    -- far
    refine ⟨_, _, rfl, rfl, ⟨by decide, by decide, by decide⟩, _, _, rfl, rfl, .inl ⟨by decide, by decide⟩, by show 4 ≤ sizeLine; decide, fun f hf => ?_⟩
    have s1 : Same H (upd H f (.lst [V.int 60, V.int 60, V.int 3, V.int (2 * 10 ^ (8 : Int).toNat)])) := same_new hf
    have h1 : (upd H f (.lst [V.int 60, V.int 60, V.int 3, V.int (2 * 10 ^ (8 : Int).toNat)])) f = some (.lst (([60, 60, 3, 200000000] : List Int).map V.int)) := upd_same
    refine ⟨_, rfl, _, rfl, a, ns, at_, 65521, rfl, s1.seq ha, by decide, ?_⟩
    have m0 := Int.emod_nonneg (mixAt ns at_ 65521) (show (4 : Int) ≠ 0 by decide)
    have m1 := Int.emod_lt_of_pos (mixAt ns at_ 65521) (show (0 : Int) < 4 by decide)
    refine ⟨_, _, rfl, rfl, (by show (0 : Int) < 4; decide), f, _, _, _, rfl, rfl, SqL.of h1, atI_int m0 m1, ?_⟩
    have hfar : 1 ≤ ([60, 60, 3, 200000000] : List Int).getD (mixAt ns at_ 65521 % 4).toNat 0 ∧ ([60, 60, 3, 200000000] : List Int).getD (mixAt ns at_ 65521 % 4).toNat 0 ≤ FAR := by
      have all : ∀ j : Nat, j < 4 → 1 ≤ ([60, 60, 3, 200000000] : List Int).getD j 0 ∧ ([60, 60, 3, 200000000] : List Int).getD j 0 ≤ 200000000 := by decide
      exact all _ (by omega)
    generalize ([60, 60, 3, 200000000] : List Int).getD (mixAt ns at_ 65521 % 4).toNat 0 = far at hfar
    refine ⟨Nat.zero_le _, fun l hl => ?_⟩
    have l0 : H l = none := s1.free hl
    have s2 : Same H (upd (upd H f (.lst [V.int 60, V.int 60, V.int 3, V.int (2 * 10 ^ (8 : Int).toNat)])) l (.lst [])) := same_mut s1 l0
    have h2l : (upd (upd H f (.lst [V.int 60, V.int 60, V.int 3, V.int (2 * 10 ^ (8 : Int).toNat)])) l (.lst [])) l = some (.lst []) := upd_same
    have goodLen : ∀ (ws : List Way) (wp : List Addr), wp.length = ws.length → ws.length ≤ 14 → (wp.map V.ref).length < sizeLine := fun ws wp e1 e2 => by
      rw [List.length_map, e1]
      exact small1000 (by omega)
    refine ⟨fun σ' H' => ∃ (v6 : Option V) (ws : List Way), σ' = [some (.ref a), some (.int (at_ : Int)), some (.ref n), some (.int (ps.length : Int)), some (.int far), some (.ref l), v6, none] ∧ Same H H' ∧ LstT wV H' l ws ∧ ws.length ≤ 5 ∧ GoodW ps ws, ?_, ?_⟩
    · refine ⟨_, rfl, _, rfl, _, _, rfl, rfl, a, ns, at_ + 1, 65519, rfl, s2.seq ha, by decide, _, _, rfl, rfl, (by show (0 : Int) < 3; decide), _, _, rfl, rfl, _, rfl, ?_⟩
      refine ite2 (fun _ => ?_) (fun _ => ?_)
      · refine ⟨_, rfl, (ps.length : Int), rfl, by omega, by omega, ?_⟩
        rw [Int.toNat_natCast]
        refine for_range (lo := 0) (n := ps.length) (fun i σ' H' => ∃ (v6 : Option V) (ws : List Way), σ' = [some (.ref a), some (.int (at_ : Int)), some (.ref n), some (.int (ps.length : Int)), some (.int far), some (.ref l), v6, none] ∧ Same H H' ∧ LstT wV H' l ws ∧ ws.length ≤ i ∧ GoodW ps ws)
          ⟨none, [], rfl, s2, ⟨[], h2l, Tups.nil⟩, Nat.le_refl _, fun e he => nomatch he⟩ ?_ ?_
        · rintro i σ H1 hi ⟨v6, ws, rfl, s3, ⟨wp, h3, tp⟩, len, good⟩
          obtain ⟨y1, hy1, at1⟩ := atI_str (xs := ps) (i := 0 + (i : Int)) (by omega) (by omega)
          have q0 := Int.emod_nonneg (0 + (i : Int) + 1) (show (ps.length : Int) ≠ 0 by omega)
          have q1 := Int.emod_lt_of_pos (0 + (i : Int) + 1) (show (0 : Int) < (ps.length : Int) by omega)
          obtain ⟨y2, hy2, at2⟩ := atI_str (xs := ps) q0 q1
          refine ⟨_, rfl, .inl ⟨rfl, _, SqL.of h3⟩, _, rfl, _, rfl, n, _, _, _, rfl, rfl, SqL.of (s3 _ _ hn), at1, _, rfl, _, rfl, _, _, rfl, rfl, _, rfl, _, _, rfl, rfl, by omega, n, _, _, _, rfl, rfl, SqL.of (s3 _ _ hn), at2,
            _, rfl, _, rfl, _, rfl, _, _, rfl, rfl, a, ns, at_ + i, 65497, (by show ([V.ref a, V.int ((at_ : Int) + (0 + (i : Int))), V.int 65497] : List V) = [V.ref a, V.int ((at_ + i : Nat) : Int), V.int 65497]; rw [Int.zero_add]; rfl), s3.seq ha, by decide, _, rfl, _, _, rfl, rfl, by omega, _, _, rfl, rfl, by show 3 ≤ sizeLine; decide, fun t ht => ?_⟩
          refine ⟨l, _, _, rfl, rfl, (same_new ht) _ _ h3, goodLen ws wp tp.1 (by omega), ?_⟩
          have b0 := Int.emod_nonneg (mixAt ns (at_ + i) 65497) (show far ≠ 0 by omega)
          have b1 := Int.emod_lt_of_pos (mixAt ns (at_ + i) 65497) (show 0 < far by omega)
          refine ⟨_, ws ++ [(y1, y2, 1 + mixAt ns (at_ + i) 65497 % far)], rfl, same_mut (s3.trans (same_new ht)) l0, lstT_snoc h3 tp (same_new ht) ht upd_same, ?_, good.snoc ⟨⟨hy1, hy2⟩, ?_, ?_⟩⟩
          · rw [List.length_append]
            show ws.length + 1 ≤ i + 1
            omega
          · show 1 ≤ 1 + mixAt ns (at_ + i) 65497 % far
            omega
          · show 1 + mixAt ns (at_ + i) 65497 % far ≤ FAR
            omega
        · rintro σ H1 ⟨v6, ws, rfl, s3, h3, len, good⟩
          exact ⟨v6, ws, rfl, s3, h3, by omega, good⟩
      · exact ⟨none, [], rfl, s2, ⟨[], h2l, Tups.nil⟩, Nat.zero_le _, fun e he => nomatch he⟩
    · rintro σ' H1 ⟨v6, ws0, rfl, s3, h3, len0, good0⟩
      obtain ⟨x0, x1⟩ := (show 0 ≤ mixAt ns (at_ + 2) 65479 % 9 ∧ mixAt ns (at_ + 2) 65479 % 9 < 9 from ⟨Int.emod_nonneg _ (by decide), Int.emod_lt_of_pos _ (by decide)⟩)
      refine ⟨_, rfl, _, rfl, _, _, rfl, rfl, a, ns, at_ + 2, 65479, rfl, s3.seq ha, by decide, _, _, rfl, rfl, (by show (0 : Int) < 9; decide), mixAt ns (at_ + 2) 65479 % 9, rfl, by omega, by omega, ?_⟩
      refine for_range (lo := 0) (n := (mixAt ns (at_ + 2) 65479 % 9).toNat) (fun i σ' H' => ∃ (v6 v7 : Option V) (ws : List Way), σ' = [some (.ref a), some (.int (at_ : Int)), some (.ref n), some (.int (ps.length : Int)), some (.int far), some (.ref l), v6, v7] ∧ Same H H' ∧ LstT wV H' l ws ∧ ws.length ≤ 5 + i ∧ GoodW ps ws)
        ⟨v6, none, ws0, rfl, s3, h3, by omega, good0⟩ ?_ ?_
      · rintro i σ H2 hi ⟨u6, u7, ws, rfl, s4, ⟨wp, h4, tp⟩, len, good⟩
        refine ⟨_, rfl, _, rfl, _, rfl, _, _, rfl, rfl, a, ns, at_ + i, (by show ([V.ref a, V.int ((at_ : Int) + (0 + (i : Int)))] : List V) = [V.ref a, V.int ((at_ + i : Nat) : Int)]; rw [Int.zero_add]; rfl), s4.seq ha, ?_⟩
        generalize cellAt ns (at_ + i) = cell
        have p0 := Int.emod_nonneg cell (show (ps.length : Int) ≠ 0 by omega)
        have p1 := Int.emod_lt_of_pos cell (show (0 : Int) < (ps.length : Int) by omega)
        obtain ⟨y1, hy1, at1⟩ := atI_str (xs := ps) p0 p1
        have q0 := Int.emod_nonneg (cell / (ps.length : Int)) (show (ps.length : Int) ≠ 0 by omega)
        have q1 := Int.emod_lt_of_pos (cell / (ps.length : Int)) (show (0 : Int) < (ps.length : Int) by omega)
        obtain ⟨y2, hy2, at2⟩ := atI_str (xs := ps) q0 q1
        refine ⟨_, rfl, .inl ⟨rfl, _, SqL.of h4⟩, _, rfl, _, rfl, _, rfl, _, _, rfl, rfl, by omega, n, _, _, _, rfl, rfl, SqL.of (s4 _ _ hn), at1, _, rfl, _, rfl, _, rfl, _, _, rfl, rfl, ⟨by omega, by omega⟩, _, rfl, _, _, rfl, rfl, by omega, n, _, _, _, rfl, rfl, SqL.of (s4 _ _ hn), at2,
          _, rfl, _, _, rfl, rfl, ⟨by decide, by decide⟩, _, rfl, _, _, rfl, rfl, by omega, _, _, rfl, rfl, by show 3 ≤ sizeLine; decide, fun t ht => ?_⟩
        refine ⟨l, _, _, rfl, rfl, (same_new ht) _ _ h4, goodLen ws wp tp.1 (by omega), ?_⟩
        have b0 := Int.emod_nonneg (cell / 25) (show far ≠ 0 by omega)
        have b1 := Int.emod_lt_of_pos (cell / 25) (show 0 < far by omega)
        refine ⟨_, _, ws ++ [(y1, y2, 1 + cell / 25 % far)], rfl, same_mut (s4.trans (same_new ht)) l0, lstT_snoc h4 tp (same_new ht) ht upd_same, ?_, good.snoc ⟨⟨hy1, hy2⟩, ?_, ?_⟩⟩
        · rw [List.length_append]
          show ws.length + 1 ≤ 5 + (i + 1)
          omega
        · show 1 ≤ 1 + cell / 25 % far
          omega
        · show 1 + cell / 25 % far ≤ FAR
          omega
      · rintro σ H2 ⟨u6, u7, ws, rfl, s4, h4, len, good⟩
        exact ⟨_, rfl, k H2 l ws s4 l0 h4 (by omega) good⟩
end
end FP
/-! FM2 -/
namespace FP
open PySem PySem.Spec PyProof.Rows L2 FM
abbrev kk (a b : Str) : List Key := [Sum.inr a, Sum.inr b]
theorem kk_eq {a b i j : Str} : kk a b = kk i j ↔ a = i ∧ b = j := by
  constructor
  · intro h
    injection h with h1 h2
    injection h2 with h3 _
    exact ⟨Sum.inr.inj h1, Sum.inr.inj h3⟩
  · rintro ⟨rfl, rfl⟩
    rfl
/-- the dict tells the table -/
def KD (D : Tb Str) (kvs : List (List Key × V)) : Prop := ∀ a b, valV kvs (kk a b) = (D a b).map V.int
theorem KD.nil : KD (fun _ _ => none) [] := fun _ _ => rfl
theorem KD.put {D : Tb Str} {kvs : List (List Key × V)} (h : KD D kvs) (i j : Str) (v : Int) : KD (D.set i j v) (putK kvs (kk i j) (.int v)) := by
  intro a b
  rw [valV_put]
  by_cases e : a = i ∧ b = j
  · rw [if_pos (kk_eq.mpr e), e.1, e.2, set_eq]
    rfl
  · rw [if_neg (fun z => e (kk_eq.mp z)), set_ne e]
    exact h a b
theorem putK_le (kvs : List (List Key × V)) (k : List Key) (v : V) : (putK kvs k v).length ≤ kvs.length + 1 := by
  unfold putK
  split
  · rw [List.length_map]; omega
  · rw [List.length_append]; exact Nat.le_refl _
theorem getD_int (o : Option Int) (z : Int) : (o.map V.int).getD (.int z) = .int (o.getD z) := by cases o <;> rfl
theorem kk_tup (a b : Str) : ([V.str a, V.str b] : List V) = (kk a b).map kV := rfl
section
variable {P : Program} {w : World} {K : PySem.W.Frag} {mg : Str → Option Value} {base : Heap}
def spLlens : Sp := fun vs H Q _ => ∃ (n b : Addr) (ps : List Str) (ws : List Way), vs = [.ref n, .ref b] ∧ H n = some (.lst (sV ps)) ∧ LstT wV H b ws ∧ ps.length ≤ 5 ∧ ws.length ≤ 14 ∧
  ∀ H' d kvs, Same H H' → H d = none → H' d = some (.dT kvs) → KD (lens ps ws) kvs → Q (.ref d) H'
abbrev nL : List Str := ["_law_names_here", "_law_ways_here", "_law_found", "_law_name", "_law_one", "_law_other", "_law_minutes", "_law_mid", "_law_by"]
theorem sc_llens : FnScope nL ["_law_names_here", "_law_ways_here"] (defScope st_llens) := ⟨rfl, rfl, rfl, by decide +kernel, rfl, by decide +kernel, by decide +kernel⟩
theorem ok_llens (T : Tx w K mg) : Ok P w K mg base 1 (He.ga K "_law_lengths") ["_law_names_here", "_law_ways_here"] spLlens := by
  refine ok_of T.d_llens sc_llens (fun vs H Q E h => ?_) (fun _ _ _ _ _ _ us hl => match us, hl with | [_, _], _ => rfl) (fun cdv A outer s H vs Q E hr h => ?_)
  · obtain ⟨n, b, ps, ws, rfl, _⟩ := h
    rfl
  · obtain ⟨n, b, ps, ws, rfl, hn, hb, hp5, hw14, k⟩ := h
    have hu := hu_of hr
    refine ⟨_, pss_cons (ps_set (i := 2) sc_llens.nd rfl (Or.inl rfl) pe_dnewT)
      (pss_cons (ps_for PassesOwn.never rfl (pi_list (pv 0)) (pg_name (i := 3) sc_llens.nd rfl (Or.inl rfl)) (pss_one (ps_dput hu (pv 2) (pe_tup (pa_cons (pv 3) (pa_cons (pv 3) pa_nil))) pe_int rfl)))
      (pss_cons (ps_for PassesOwn.never rfl (pi_list (pv 1)) (pg_tup rfl (pgs_cons (pg_name (i := 4) sc_llens.nd rfl (Or.inl rfl)) (pgs_cons (pg_name (i := 5) sc_llens.nd rfl (Or.inl rfl)) (pgs_cons (pg_name (i := 6) sc_llens.nd rfl (Or.inl rfl)) pgs_nil))))
        (pss_one (ps_dput hu (pv 2) (pe_tup (pa_cons (pv 4) (pa_cons (pv 5) pa_nil))) (pe_callB (call_min2 rfl) (by rfl) T.n_min (by decide +kernel) (pa_cons (pv 6) (pa_cons (pe_dget2 hu (pv 2) (pe_tup (pa_cons (pv 4) (pa_cons (pv 5) pa_nil))) (pv 6) ⟨rfl, rfl, rfl, rfl⟩) pa_nil))) rfl)))
      (pss_cons (ps_for PassesOwn.never rfl (pi_list (pv 0)) (pg_name (i := 7) sc_llens.nd rfl (Or.inl rfl))
        (pss_one (ps_for PassesOwn.never rfl (pi_list (pv 0)) (pg_name (i := 4) sc_llens.nd rfl (Or.inl rfl))
          (pss_one (ps_for PassesOwn.never rfl (pi_list (pv 0)) (pg_name (i := 5) sc_llens.nd rfl (Or.inl rfl))
            (pss_one (ps_if (PW.pt (pw_and (pt_cmp (pc_din hu (pe_tup (pa_cons (pv 4) (pa_cons (pv 7) pa_nil))) (pv 2))) (pw_and1 (pt_cmp (pc_din hu (pe_tup (pa_cons (pv 7) (pa_cons (pv 5) pa_nil))) (pv 2))))))
              (pss_cons (ps_set (i := 8) sc_llens.nd rfl (Or.inl rfl) (pe_op op_add (pe_dget hu (pv 2) (pe_tup (pa_cons (pv 4) (pa_cons (pv 7) pa_nil))) (fun _ _ => rfl)) (pe_dget hu (pv 2) (pe_tup (pa_cons (pv 7) (pa_cons (pv 5) pa_nil))) (fun _ _ => rfl))))
              (pss_one (ps_dput hu (pv 2) (pe_tup (pa_cons (pv 4) (pa_cons (pv 5) pa_nil))) (pe_callB (call_min2 rfl) (by rfl) T.n_min (by decide +kernel) (pa_cons (pv 8) (pa_cons (pe_dget2 hu (pv 2) (pe_tup (pa_cons (pv 4) (pa_cons (pv 5) pa_nil))) (pv 8) ⟨rfl, rfl, rfl, rfl⟩) pa_nil))) rfl))) pss_nil)))))))
      (pss_one (ps_ret (pv 2)))))), ?_⟩
    have two : 2 ≤ sizeLine := by decide
    intro d hd
    have s1 : Same H (upd H d (.dT [])) := same_new hd
    -- the line
    refine ⟨_, rfl, n, rfl, ⟨_, SqL.of (s1 _ _ hn)⟩, for_list (K := K) (a := n) (xs := sV ps)
      (fun i σ H' => ∃ v kvs, σ = [some (.ref n), some (.ref b), some (.ref d), v, none, none, none, none, none] ∧ Same H H' ∧ H' d = some (.dT kvs) ∧ KD (diagF (ps.take i) fun _ _ => none) kvs ∧ kvs.length ≤ i)
      ⟨none, [], rfl, s1, upd_same, KD.nil, Nat.le_refl _⟩ (fun i σ H' _ ⟨_, _, _, s, _⟩ => SqL.of (s _ _ hn)) ?_ ?_⟩
    · rintro i x σ H1 hi ⟨v, kvs, rfl, s2, h2, kd, len⟩
      obtain ⟨y, hy, rfl, hm⟩ := sV_at hi
      have hil := (List.getElem?_eq_some_iff.mp hy).1
      refine ⟨_, rfl, _, rfl, _, rfl, two, fun t ht => ?_⟩
      have s3 := same_new (o := .tup [V.str y, V.str y]) ht
      refine ⟨d, _, rfl, DPut.t (k := kk y y) (s3 _ _ h2) upd_same (small1000 (by omega)), ?_⟩
      refine ⟨_, _, rfl, same_mut (s2.trans s3) hd, upd_same, ?_, Nat.le_trans (putK_le _ _ _) (by omega)⟩
      have e : diagF (ps.take (i + 1)) (fun _ _ => none) = (diagF (ps.take i) fun _ _ => none).set y y 0 := by
        unfold diagF
        rw [take_next hy, List.foldl_append]
        rfl
      rw [e]
      exact kd.put y y 0
    rintro σ1 H1 ⟨v, kvs1, rfl, s2, h2, kd1, len1⟩
    rw [sV_len, List.take_length] at kd1
    rw [sV_len] at len1
    obtain ⟨wp, hb1, hb2⟩ := id hb
    have lw : (wp.map V.ref).length = ws.length := by rw [List.length_map]; exact hb2.1
    -- the ways
    refine ⟨_, rfl, b, rfl, ⟨_, SqL.of (s2 _ _ hb1)⟩, for_list (K := K) (a := b) (xs := wp.map V.ref)
      (fun i σ H' => ∃ v3 v4 v5 v6 kvs, σ = [some (.ref n), some (.ref b), some (.ref d), v3, v4, v5, v6, none, none] ∧ Same H H' ∧ H' d = some (.dT kvs) ∧ KD (edgeF (ws.take i) (diagF ps fun _ _ => none)) kvs ∧ kvs.length ≤ 5 + i)
      ⟨v, none, none, none, kvs1, rfl, s2, h2, kd1, by omega⟩ (fun i σ H' _ ⟨_, _, _, _, _, _, s, _⟩ => SqL.of (s _ _ hb1)) ?_ ?_⟩
    · rintro i x σ H2 hi ⟨v3, v4, v5, v6, kvs, rfl, s3, h3, kd, len⟩
      obtain ⟨q, e, rfl, hq, he, hm, hT⟩ := hb2.at hi
      have hil := (List.getElem?_eq_some_iff.mp he).1
      refine ⟨q, _, rfl, SqT.of (s3 _ _ hT), rfl, _, _, rfl, _, _, rfl, _, _, rfl, rfl, ?_⟩
      refine ⟨_, rfl, _, rfl, d, rfl, .inr ⟨_, .inl h3⟩, _, rfl, _, rfl, two, fun t ht => ?_⟩
      have s4 := same_new (o := .tup [V.str e.1, V.str e.2.1]) ht
      refine ⟨_, rfl, _, DGet.t (k := kk e.1 e.2.1) (s4 _ _ h3) upd_same, ?_⟩
      rw [kd e.1 e.2.1, getD_int]
      refine ⟨_, _, rfl, _, rfl, _, rfl, _, rfl, two, fun t2 ht2 => ?_⟩
      have s5 := same_new (o := .tup [V.str e.1, V.str e.2.1]) ht2
      refine ⟨d, _, rfl, DPut.t (k := kk e.1 e.2.1) (s5 _ _ (s4 _ _ h3)) upd_same (small1000 (by omega)), ?_⟩
      refine ⟨_, _, _, _, _, rfl, same_mut ((s3.trans s4).trans s5) hd, upd_same, ?_, Nat.le_trans (putK_le _ _ _) (by omega)⟩
      have eE : edgeF (ws.take (i + 1)) (diagF ps fun _ _ => none) = (edgeF (ws.take i) (diagF ps fun _ _ => none)).set e.1 e.2.1 (mn e.2.2 (((edgeF (ws.take i) (diagF ps fun _ _ => none)) e.1 e.2.1).getD e.2.2)) := by
        unfold edgeF
        rw [take_next he, List.foldl_append]
        rfl
      rw [eE]
      exact kd.put e.1 e.2.1 _
    rintro σ2 H2 ⟨v3, v4, v5, v6, kvs2, rfl, s3, h3, kd2, len2⟩
    rw [lw, List.take_length] at kd2
    rw [lw] at len2
    generalize hD0 : edgeF ws (diagF ps fun _ _ => none) = D0 at kd2
    -- the mids
    refine ⟨_, rfl, n, rfl, ⟨_, SqL.of (s3 _ _ hn)⟩, for_list (K := K) (a := n) (xs := sV ps)
      (fun i σ H' => ∃ v3 v4 v5 v6 v7 v8 kvs, σ = [some (.ref n), some (.ref b), some (.ref d), v3, v4, v5, v6, v7, v8] ∧ Same H H' ∧ H' d = some (.dT kvs) ∧ KD (allF (ps.take i) ps ps D0) kvs ∧ kvs.length ≤ 20 + 25 * i)
      ⟨v3, v4, v5, v6, none, none, kvs2, rfl, s3, h3, kd2, by omega⟩ (fun i σ H' _ ⟨_, _, _, _, _, _, _, _, s, _⟩ => SqL.of (s _ _ hn)) ?_ ?_⟩
    · rintro i x σ H3 hi ⟨v3, v4, v5, v6, v7, v8, kvs3, rfl, s4, h4, kd3, len3⟩
      obtain ⟨m, hm, rfl, hmm⟩ := sV_at hi
      have hil := (List.getElem?_eq_some_iff.mp hm).1
      have eA : allF (ps.take (i + 1)) ps ps D0 = midF m ps ps (allF (ps.take i) ps ps D0) := by
        unfold allF
        rw [take_next hm, List.foldl_append]
        rfl
      rw [eA]
      generalize allF (ps.take i) ps ps D0 = D1 at kd3
      refine ⟨_, rfl, n, rfl, ⟨_, SqL.of (s4 _ _ hn)⟩, for_list (K := K) (a := n) (xs := sV ps)
        (fun j σ H' => ∃ v3 v4 v5 v6 v8 kvs, σ = [some (.ref n), some (.ref b), some (.ref d), v3, v4, v5, v6, some (.str m), v8] ∧ Same H H' ∧ H' d = some (.dT kvs) ∧ KD (midF m (ps.take j) ps D1) kvs ∧ kvs.length ≤ 20 + 25 * i + 5 * j)
        ⟨v3, v4, v5, v6, v8, kvs3, rfl, s4, h4, kd3, by omega⟩ (fun i σ H' _ ⟨_, _, _, _, _, _, _, s, _⟩ => SqL.of (s _ _ hn)) ?_ ?_⟩
      · rintro j x σ H4 hj ⟨v3, v4, v5, v6, v8, kvs4, rfl, s5, h5, kd4, len4⟩
        obtain ⟨p, hp, rfl, hpm⟩ := sV_at hj
        have hjl := (List.getElem?_eq_some_iff.mp hp).1
        have eM : midF m (ps.take (j + 1)) ps D1 = FM.rowF m p ps (midF m (ps.take j) ps D1) := by
          unfold midF
          rw [take_next hp, List.foldl_append]
          rfl
        rw [eM]
        generalize midF m (ps.take j) ps D1 = D2 at kd4
        refine ⟨_, rfl, n, rfl, ⟨_, SqL.of (s5 _ _ hn)⟩, for_list (K := K) (a := n) (xs := sV ps)
          (fun z σ H' => ∃ v3 v5 v6 v8 kvs, σ = [some (.ref n), some (.ref b), some (.ref d), v3, some (.str p), v5, v6, some (.str m), v8] ∧ Same H H' ∧ H' d = some (.dT kvs) ∧ KD (FM.rowF m p (ps.take z) D2) kvs ∧ kvs.length ≤ 20 + 25 * i + 5 * j + z)
          ⟨v3, v5, v6, v8, kvs4, rfl, s5, h5, kd4, by omega⟩ (fun i σ H' _ ⟨_, _, _, _, _, _, s, _⟩ => SqL.of (s _ _ hn)) ?_ ?_⟩
        · rintro z x σ H5 hz ⟨v3, v5, v6, v8, kvs5, rfl, s6, h6, kd5, len5⟩
          obtain ⟨g, hg, rfl, hgm⟩ := sV_at hz
          have hzl := (List.getElem?_eq_some_iff.mp hg).1
          have eR : FM.rowF m p (ps.take (z + 1)) D2 = relax m p g (FM.rowF m p (ps.take z) D2) := by
            unfold FM.rowF
            rw [take_next hg, List.foldl_append]
            rfl
          rw [eR]
          generalize FM.rowF m p (ps.take z) D2 = D3 at kd5
          refine ⟨_, rfl, _, rfl, two, fun t1 n1 => ?_⟩
          have s7 := same_new (o := .tup [V.str p, V.str m]) n1
          refine ⟨_, rfl, d, _, rfl, DGet.t (k := kk p m) (s7 _ _ h6) upd_same, _, rfl, ?_⟩
          rw [kd5 p m]
          unfold relax
          cases e1 : D3 p m with
          | none =>
            refine iteF (iteF ?_)
            exact ⟨_, _, _, _, _, rfl, s6.trans s7, s7 _ _ h6, kd5, by omega⟩
          | some x1 =>
            refine iteT ?_
            refine ⟨_, rfl, _, rfl, two, fun t2 n2 => ?_⟩
            have s8 := s7.trans (same_new (o := .tup [V.str m, V.str g]) n2)
            refine ⟨_, rfl, d, _, rfl, DGet.t (k := kk m g) (s8 _ _ h6) upd_same, _, rfl, ?_⟩
            rw [kd5 m g]
            cases e2 : D3 m g with
            | none =>
              refine iteF ?_
              exact ⟨_, _, _, _, _, rfl, s6.trans s8, s8 _ _ h6, kd5, by omega⟩
            | some x2 =>
              refine iteT ?_
              have hv1 : valV kvs5 (kk p m) = some (.int x1) := by rw [kd5, e1]; rfl
              have hv2 : valV kvs5 (kk m g) = some (.int x2) := by rw [kd5, e2]; rfl
              -- by
              refine ⟨_, rfl, _, rfl, _, rfl, two, fun t3 n3 => ?_⟩
              have s9 := s8.trans (same_new (o := .tup [V.str p, V.str m]) n3)
              refine ⟨d, _, rfl, (by rw [← hv1]; exact DGet.t (k := kk p m) (s9 _ _ h6) upd_same), _, rfl, _, rfl, _, rfl, two, fun t4 n4 => ?_⟩
              have s10 := s9.trans (same_new (o := .tup [V.str m, V.str g]) n4)
              refine ⟨d, _, rfl, (by rw [← hv2]; exact DGet.t (k := kk m g) (s10 _ _ h6) upd_same), _, _, rfl, rfl, ?_⟩
              -- min
              refine ⟨_, rfl, _, rfl, d, rfl, .inr ⟨_, .inl (s10 _ _ h6)⟩, _, rfl, _, rfl, two, fun t5 n5 => ?_⟩
              have s11 := s10.trans (same_new (o := .tup [V.str p, V.str g]) n5)
              refine ⟨_, rfl, _, DGet.t (k := kk p g) (s11 _ _ h6) upd_same, ?_⟩
              rw [kd5 p g]
              refine ⟨x1 + x2, (D3 p g).getD (x1 + x2), by rw [getD_int], _, rfl, _, rfl, _, rfl, two, fun t6 n6 => ?_⟩
              have s12 := s11.trans (same_new (o := .tup [V.str p, V.str g]) n6)
              refine ⟨d, _, rfl, DPut.t (k := kk p g) (s12 _ _ h6) upd_same (small1000 (by omega)), ?_⟩
              exact ⟨_, _, _, _, _, rfl, same_mut (s6.trans s12) hd, upd_same, kd5.put p g _, Nat.le_trans (putK_le _ _ _) (by omega)⟩
        · rintro σ H5 ⟨v3, v5, v6, v8, kvs5, rfl, s6, h6, kd5, len5⟩
          rw [sV_len, List.take_length] at kd5
          rw [sV_len] at len5
          exact ⟨_, _, _, _, _, _, rfl, s6, h6, kd5, by omega⟩
      · rintro σ H4 ⟨v3, v4, v5, v6, v8, kvs4, rfl, s5, h5, kd4, len4⟩
        rw [sV_len, List.take_length] at kd4
        rw [sV_len] at len4
        exact ⟨_, _, _, _, _, _, _, rfl, s5, h5, kd4, by omega⟩
    · rintro σ H3 ⟨v3, v4, v5, v6, v7, v8, kvs3, rfl, s4, h4, kd3, len3⟩
      rw [sV_len, List.take_length, ← hD0] at kd3
      exact ⟨_, rfl, k H3 d kvs3 s4 hd h4 kd3⟩
end
end FP
/-! FN -/
namespace FP
open PySem PySem.Spec PyProof.Rows L2 FM
theorem atI_intM {xs : List Int} {i : Int} (h0 : 0 ≤ i) (h1 : i < (xs.length : Int)) : ∃ y ∈ xs, atI (xs.map V.int) i = some (.int y) := by
  have hl : i.toNat < xs.length := by omega
  refine ⟨xs[i.toNat], List.getElem_mem hl, ?_⟩
  unfold atI
  rw [List.length_map, ixN_nat h0 h1]
  show (xs.map V.int)[i.toNat]? = _
  rw [List.getElem?_map, List.getElem?_eq_getElem hl]
  rfl
/-- a trip as the law makes it, by the table of lengths -/
structure TrGood (D : Tb Str) (ps : List Str) (t : Tr) : Prop where
  o : t.o ∈ ps
  g : t.g ∈ ps
  st : 0 ≤ t.st
  lt : t.st < t.fi
  fi : t.fi ≤ LIM
  se : 0 ≤ t.se ∧ t.se ≤ LIM
  way : ∃ l, D t.o t.g = some l ∧ l ≤ t.fi - t.st
/-- a trip ahead, or none -/
def AhV (H : Hp) (D : Tb Str) (ps : List Str) (v : V) : Prop := v = .non ∨ ∃ (b : Addr) (t : Tr), v = .ref b ∧ H b = some (.tup (tV t)) ∧ TrGood D ps t
section
variable {P : Program} {w : World} {K : PySem.W.Frag} {mg : Str → Option Value} {base : Heap}
abbrev nT : List Str := ["_law_script", "_law_at", "_law_name", "_law_places", "_law_lengths_here", "_law_ahead", "_law_first", "_law_second", "_law_third", "_law_origin", "_law_goal", "_law_more", "_law_took", "_law_start"]
def spLtrip (K : PySem.W.Frag) : Sp := fun vs H Q _ => ∃ (a q d : Addr) (ns : List Int) (at_ : Nat) (nm : Str) (ps : List Str) (D : Tb Str) (kvs : List (List Key × V)) (av : V), vs = [.ref a, .int (at_ : Int), .str nm, .ref q, .ref d, av] ∧ SqL K H a (ns.map V.int) ∧
  H q = some (.lst (sV ps)) ∧ 2 ≤ ps.length ∧ H d = some (.dT kvs) ∧ KD D kvs ∧ (∀ p ∈ ps, D p p = some 0) ∧ (∀ a b v, D a b = some v → 0 ≤ v ∧ v ≤ 4 * FAR) ∧ AhV H D ps av ∧
  ∀ H' t tr, Same H H' → H t = none → H' t = some (.tup (tV tr)) → tr.nm = nm → TrGood D ps tr → Q (.ref t) H'
theorem sc_ltrip : FnScope nT ["_law_script", "_law_at", "_law_name", "_law_places", "_law_lengths_here", "_law_ahead"] (defScope st_ltrip) := ⟨rfl, rfl, rfl, by decide +kernel, rfl, by decide +kernel, by decide +kernel⟩
theorem ok_ltrip (T : Tx w K mg) : Ok P w K mg base 2 (He.ga K "_law_trip") ["_law_script", "_law_at", "_law_name", "_law_places", "_law_lengths_here", "_law_ahead"] (spLtrip K) := by
  obtain ⟨fdC, GC, kC, bC⟩ := ok_lcell (P := P) (base := base) T
  refine ok_of T.d_ltrip sc_ltrip (fun vs H Q E h => ?_) (fun _ _ _ _ _ _ us hl => match us, hl with | [_, _, _, _, _, _], _ => rfl) (fun cdv A outer s H vs Q E hr h => ?_)
  · obtain ⟨a, q, d, ns, at_, nm, ps, D, kvs, av, rfl, _⟩ := h
    rfl
  · obtain ⟨a, q, d, ns, at_, nm, ps, D, kvs, av, rfl, ha, hq, h2, hd, kd, line, top, ahead, k⟩ := h
    have hu := hu_of hr
    have two : 2 ≤ sizeLine := by decide
    have lps : (sV ps).length = ps.length := sV_len ps
    refine ⟨_, pss_cons (ps_set (i := 6) sc_ltrip.nd rfl (Or.inl rfl) (pe_call GC hr rfl T.g__law_cell_at kC bC .nil pass0 (pa_cons (pv 0) (pa_cons (pv 1) pa_nil))))
      (pss_cons (ps_set (i := 7) sc_ltrip.nd rfl (Or.inl rfl) (pe_call GC hr rfl T.g__law_cell_at kC bC .nil pass0 (pa_cons (pv 0) (pa_cons (pe_op op_add (pv 1) pe_int) pa_nil))))
      (pss_cons (ps_set (i := 8) sc_ltrip.nd rfl (Or.inl rfl) (pe_call GC hr rfl T.g__law_cell_at kC bC .nil pass0 (pa_cons (pv 0) (pa_cons (pe_op op_add (pv 1) pe_int) pa_nil))))
      (pss_cons (ps_set (i := 9) sc_ltrip.nd rfl (Or.inl rfl) (pe_ix ix_list (pv 3) (pe_op op_mod (pv 6) (pe_callB call_len_seq (by rfl) T.n_len PySem.boot_len (pa_cons (pv 3) pa_nil))) (fun _ _ => rfl)))
      (pss_cons (ps_set (i := 10) sc_ltrip.nd rfl (Or.inl rfl) (pe_ix ix_list (pv 3) (pe_op op_mod (pe_op op_fdiv (pv 6) pe_int) (pe_callB call_len_seq (by rfl) T.n_len PySem.boot_len (pa_cons (pv 3) pa_nil))) (fun _ _ => rfl)))
      (Evl.pss_cut (ps_if (pt_cmp (pc_dnotin hu (pe_tup (pa_cons (pv 9) (pa_cons (pv 10) pa_nil))) (pv 4))) (pss_one (ps_set (i := 10) sc_ltrip.nd rfl (Or.inl rfl) (pv 9))) pss_nil)
      (pss_cons (ps_set (i := 11) sc_ltrip.nd rfl (Or.inl rfl) (pe_ix ix_list (pe_lst (pa_cons pe_int (pa_cons (pe_op op_mod (pv 8) pe_int) (pa_cons (pe_op op_mod (pv 7) pe_int) (pa_cons (pe_op op_mod (pv 8) (pe_op op_pow pe_int pe_int)) pa_nil)))))
        (pe_op op_mod (pe_op op_fdiv (pv 6) pe_int) pe_int) (fun _ _ => rfl)))
      (pss_cons (ps_set (i := 12) sc_ltrip.nd rfl (Or.inl rfl) (pe_callB (call_max2 rfl) (by rfl) T.n_max (by decide +kernel) (pa_cons pe_int (pa_cons (pe_op op_add (pe_dget hu (pv 4) (pe_tup (pa_cons (pv 9) (pa_cons (pv 10) pa_nil))) (fun _ _ => rfl)) (pv 11)) pa_nil))))
      (pss_cons (ps_set (i := 13) sc_ltrip.nd rfl (Or.inl rfl) (pe_ix ix_list (pe_lst (pa_cons (pe_op op_mod (pv 7) pe_int) (pa_cons (pe_op op_mod (pv 7) pe_int) (pa_cons (pe_op op_mod (pv 7) (pe_op op_pow pe_int pe_int)) pa_nil))))
        (pe_op op_mod (pe_op op_fdiv (pv 6) pe_int) pe_int) (fun _ _ => rfl)))
      (Evl.pss_cut (ps_if (PW.pt (pw_and (pt_cmpR op_eq (pe_op op_mod (pe_op op_fdiv (pv 6) pe_int) pe_int) pe_int (nomark _)) (pw_and (pt_cmpR op_notN (pv 5) pe_non (nomark _)) (pw_and1 (pt_cmp (pc_din hu (pe_tup (pa_cons (pe_ix ix_tup (pv 5) pe_int (fun _ _ => rfl)) (pa_cons (pv 9) pa_nil))) (pv 4)))))))
        (pss_one (ps_set (i := 13) sc_ltrip.nd rfl (Or.inl rfl) (pe_op op_sub (pe_op op_add (pe_op op_add (pe_ix ix_tup (pv 5) pe_int (fun _ _ => rfl)) (pe_dget hu (pv 4) (pe_tup (pa_cons (pe_ix ix_tup (pv 5) pe_int (fun _ _ => rfl)) (pa_cons (pv 9) pa_nil))) (fun _ _ => rfl))) (pe_op op_mod (pv 7) pe_int)) pe_int))) pss_nil)
      (pss_cons (ps_set (i := 13) sc_ltrip.nd rfl (Or.inl rfl) (pe_callB (call_min2 rfl) (by rfl) T.n_min (by decide +kernel) (pa_cons (pv 13) (pa_cons (pe_op op_sub (pe_op op_pow pe_int pe_int) (pv 12)) pa_nil))))
      (pss_one (ps_ret (pe_tup (pa_cons (pv 2) (pa_cons (pv 9) (pa_cons (pv 10) (pa_cons (pv 13) (pa_cons (pe_op op_add (pv 13) (pv 12)) (pa_cons (pe_op op_mod (pe_op op_fdiv (pv 8) pe_int) (pe_op op_add (pe_op op_pow pe_int pe_int) pe_int)) pa_nil))))))))))))))))))), ?_⟩
    refine ⟨_, rfl, _, rfl, a, ns, at_, rfl, ha, ?_⟩
    refine ⟨_, rfl, _, rfl, _, _, rfl, rfl, a, ns, at_ + 1, rfl, ha, ?_⟩
    refine ⟨_, rfl, _, rfl, _, _, rfl, rfl, a, ns, at_ + 2, rfl, ha, ?_⟩
    generalize cellAt ns at_ = fst
    generalize cellAt ns (at_ + 1) = snd
    generalize cellAt ns (at_ + 2) = thd
    -- the places
    have i0 := Int.emod_nonneg fst (show (ps.length : Int) ≠ 0 by omega)
    have i1 := Int.emod_lt_of_pos fst (show (0 : Int) < (ps.length : Int) by omega)
    obtain ⟨o, ho, at1⟩ := atI_str (xs := ps) i0 i1
    have j0 := Int.emod_nonneg (fst / 5) (show (ps.length : Int) ≠ 0 by omega)
    have j1 := Int.emod_lt_of_pos (fst / 5) (show (0 : Int) < (ps.length : Int) by omega)
    obtain ⟨g, hg, at2⟩ := atI_str (xs := ps) j0 j1
    rw [← lps] at at1 at2
    refine ⟨_, rfl, _, rfl, _, rfl, q, _, rfl, .inl (SqL.of hq), _, _, rfl, rfl, by omega, q, _, _, _, rfl, rfl, SqL.of hq, at1, ?_⟩
    refine ⟨_, rfl, _, rfl, _, _, rfl, rfl, ⟨by decide, by decide⟩, _, rfl, q, _, rfl, .inl (SqL.of hq), _, _, rfl, rfl, by omega, q, _, _, _, rfl, rfl, SqL.of hq, at2, ?_⟩
    -- the goal that can be reached
    refine ⟨fun σ' H' => ∃ (g : Str) (l : Int), σ' = [some (.ref a), some (.int (at_ : Int)), some (.str nm), some (.ref q), some (.ref d), some av, some (.int fst), some (.int snd), some (.int thd), some (.str o), some (.str g), none, none, none] ∧ Same H H' ∧ g ∈ ps ∧ D o g = some l, ?_, ?_⟩
    · refine ⟨_, rfl, _, rfl, two, fun t ht => ?_⟩
      have s1 := same_new (o := .tup [V.str o, V.str g]) ht
      refine ⟨_, rfl, d, _, rfl, DGet.t (k := kk o g) (s1 _ _ hd) upd_same, _, rfl, ?_⟩
      rw [kd o g]
      cases e : D o g with
      | none => exact iteT ⟨_, rfl, o, 0, rfl, s1, ho, line o ho⟩
      | some l => exact iteF ⟨g, l, rfl, s1, hg, e⟩
    clear at2 hg
    rintro σ1 H1 ⟨g, l, rfl, s1, hg, hl⟩
    obtain ⟨l0, l1⟩ := top o g l hl
    -- more
    have b0 := Int.emod_nonneg (fst / 25) (show (4 : Int) ≠ 0 by decide)
    have b1 := Int.emod_lt_of_pos (fst / 25) (show (0 : Int) < 4 by decide)
    obtain ⟨more, hmore, at3⟩ := atI_intM (xs := [0, thd % 60, snd % 7, thd % 10 ^ (8 : Int).toNat]) b0 b1
    have hmb : 0 ≤ more ∧ more < 100000000 := by
      have e8 : (10 : Int) ^ (8 : Int).toNat = 100000000 := by decide
      rw [e8] at hmore
      simp only [List.mem_cons, List.not_mem_nil, or_false] at hmore
      rcases hmore with rfl | rfl | rfl | rfl
      · omega
      · omega
      · omega
      · omega
    refine ⟨_, rfl, _, _, rfl, rfl, (by show (0 : Int) < 60; decide), _, rfl, _, _, rfl, rfl, (by show (0 : Int) < 7; decide), _, rfl, _, _, rfl, rfl, ⟨by decide, by decide, by decide⟩, _, _, rfl, rfl, (by show (0 : Int) < 10 ^ (8 : Int).toNat; decide), by show 4 ≤ sizeLine; decide, fun f hf => ?_⟩
    refine ⟨_, rfl, _, _, rfl, rfl, ⟨by decide, by decide⟩, _, _, rfl, rfl, (by show (0 : Int) < 4; decide), f, _, _, _, rfl, rfl, SqL.of (show _ = some (HO.lst (([0, thd % 60, snd % 7, thd % 10 ^ (8 : Int).toNat] : List Int).map V.int)) from upd_same), at3, ?_⟩
    have s2 := fun x => s1.trans (same_new (o := x) hf)
    -- took
    have hv1 : valV kvs (kk o g) = some (.int l) := by rw [kd, hl]; rfl
    refine ⟨_, rfl, _, rfl, _, rfl, two, fun t1 n1 => ?_⟩
    have s3 := fun y => (s2 _).trans (same_new (o := y) n1)
    refine ⟨d, _, rfl, (by rw [← hv1]; exact DGet.t (k := kk o g) ((s3 _) _ _ hd) upd_same), _, rfl, _, _, rfl, rfl, _, _, rfl, ?_⟩
    obtain ⟨took, htook, tk⟩ : ∃ took : Int, took = (if l + more > 1 then l + more else 1) ∧ (1 ≤ took ∧ l ≤ took ∧ took ≤ 900000000) := by
      refine ⟨_, rfl, ?_⟩
      unfold FAR at l1
      split <;> omega
    rw [← htook]
    -- start
    have c0 := Int.emod_nonneg (fst / 100) (show (3 : Int) ≠ 0 by decide)
    have c1 := Int.emod_lt_of_pos (fst / 100) (show (0 : Int) < 3 by decide)
    obtain ⟨sta, hsta, at4⟩ := atI_intM (xs := [snd % 1440, snd % 200, snd % 10 ^ (9 : Int).toNat]) c0 c1
    have hsb : 0 ≤ sta := by
      have e9 : (10 : Int) ^ (9 : Int).toNat = 1000000000 := by decide
      rw [e9] at hsta
      simp only [List.mem_cons, List.not_mem_nil, or_false] at hsta
      rcases hsta with rfl | rfl | rfl
      · omega
      · omega
      · omega
    refine ⟨_, rfl, _, _, rfl, rfl, (by show (0 : Int) < 1440; decide), _, rfl, _, _, rfl, rfl, (by show (0 : Int) < 200; decide), _, rfl, _, _, rfl, rfl, ⟨by decide, by decide, by decide⟩, _, _, rfl, rfl, (by show (0 : Int) < 10 ^ (9 : Int).toNat; decide), by show 3 ≤ sizeLine; decide, fun f2 hf2 => ?_⟩
    have s4 := fun z => (s3 _).trans (same_new (o := z) hf2)
    refine ⟨_, rfl, _, _, rfl, rfl, ⟨by decide, by decide⟩, _, _, rfl, rfl, (by show (0 : Int) < 3; decide), f2, _, _, _, rfl, rfl, SqL.of (show _ = some (HO.lst (([snd % 1440, snd % 200, snd % 10 ^ (9 : Int).toNat] : List Int).map V.int)) from upd_same), at4, ?_⟩
    -- just behind the one ahead
    refine ⟨fun σ' H' => ∃ (st : Int), σ' = [some (.ref a), some (.int (at_ : Int)), some (.str nm), some (.ref q), some (.ref d), some av, some (.int fst), some (.int snd), some (.int thd), some (.str o), some (.str g), some (.int more), some (.int took), some (.int st)] ∧ Same H H' ∧ 0 ≤ st, ?_, ?_⟩
    · refine ⟨_, rfl, _, _, rfl, rfl, ⟨by decide, by decide⟩, _, _, rfl, rfl, (by show (0 : Int) < 2; decide), rfl, _, rfl, ?_⟩
      refine ite2 (fun _ => ?_) (fun _ => iteF ⟨sta, rfl, s4 _, hsb⟩)
      refine ⟨_, rfl, rfl, _, rfl, ?_⟩
      rcases ahead with rfl | ⟨b, ta, rfl, hb, Ta⟩
      · exact iteF (iteF ⟨sta, rfl, s4 _, hsb⟩)
      · refine iteT ?_
        refine ⟨_, rfl, b, tV ta, 2, .str ta.g, rfl, rfl, SqT.of ((s4 _) _ _ hb), rfl, _, rfl, two, fun t2 n2 => ?_⟩
        have s5 := fun u => (s4 _).trans (same_new (o := u) n2)
        refine ⟨_, rfl, d, _, rfl, DGet.t (k := kk ta.g o) ((s5 _) _ _ hd) upd_same, _, rfl, ?_⟩
        rw [kd ta.g o]
        cases e : D ta.g o with
        | none => exact iteF ⟨sta, rfl, s5 _, hsb⟩
        | some l2 =>
          refine iteT ?_
          obtain ⟨l20, _⟩ := top _ _ _ e
          have hv2 : valV kvs (kk ta.g o) = some (.int l2) := by rw [kd, e]; rfl
          refine ⟨_, rfl, b, tV ta, 4, .int ta.fi, rfl, rfl, SqT.of ((s5 _) _ _ hb), rfl, _, rfl, _, rfl, b, tV ta, 2, .str ta.g, rfl, rfl, SqT.of ((s5 _) _ _ hb), rfl, _, rfl, two, fun t3 n3 => ?_⟩
          have s6 := fun v => (s5 _).trans (same_new (o := v) n3)
          refine ⟨d, _, rfl, (by rw [← hv2]; exact DGet.t (k := kk ta.g o) ((s6 _) _ _ hd) upd_same), _, _, rfl, rfl, _, rfl, _, _, rfl, rfl, (by show (0 : Int) < 3; decide), _, _, rfl, rfl, _, _, rfl, rfl, ?_⟩
          refine ⟨ta.fi + l2 + snd % 3 - 1, rfl, s6 _, ?_⟩
          have := Ta.st
          have := Ta.lt
          omega
    rintro σ2 H2 ⟨st, rfl, s7, st0⟩
    -- the end
    refine ⟨_, rfl, _, _, rfl, rfl, ⟨by decide, by decide, by decide⟩, _, rfl, _, _, rfl, rfl, _, _, rfl, ?_⟩
    have e9 : (10 : Int) ^ (9 : Int).toNat = 1000000000 := by decide
    refine ⟨_, rfl, _, rfl, _, rfl, _, rfl, _, rfl, _, rfl, _, _, rfl, rfl, _, rfl, _, _, rfl, rfl, ⟨by decide, by decide⟩, _, _, rfl, rfl, ⟨by decide, by decide, by decide⟩, _, _, rfl, rfl, _, _, rfl, rfl, (by show (0 : Int) < 10 ^ (9 : Int).toNat + 1; decide), by show 6 ≤ sizeLine; decide, fun t ht => ?_⟩
    have hst : 0 ≤ (if (10 : Int) ^ (9 : Int).toNat - took < st then (10 : Int) ^ (9 : Int).toNat - took else st) ∧ (if (10 : Int) ^ (9 : Int).toNat - took < st then (10 : Int) ^ (9 : Int).toNat - took else st) ≤ 1000000000 - took := by
      rw [e9]
      split <;> omega
    have key : ∀ ss : Int, 0 ≤ ss ∧ ss ≤ 1000000000 - took → ss < ss + took ∧ ss + took ≤ LIM ∧ l ≤ ss + took - ss := by
      intro ss h
      unfold LIM
      omega
    refine k _ t ⟨nm, o, g, if (10 : Int) ^ (9 : Int).toNat - took < st then (10 : Int) ^ (9 : Int).toNat - took else st, (if (10 : Int) ^ (9 : Int).toNat - took < st then (10 : Int) ^ (9 : Int).toNat - took else st) + took, thd / 7 % ((10 : Int) ^ (9 : Int).toNat + 1)⟩ (s7.trans (same_new ht)) (s7.free ht) upd_same rfl ⟨ho, hg, hst.1, (key _ hst).1, (key _ hst).2.1, ?_, l, hl, (key _ hst).2.2⟩
    show 0 ≤ thd / 7 % ((10 : Int) ^ (9 : Int).toNat + 1) ∧ thd / 7 % ((10 : Int) ^ (9 : Int).toNat + 1) ≤ LIM
    rw [e9]
    unfold LIM
    omega
end
end FP
/-! FDat -/
namespace FP
open PySem PySem.Spec PyProof.Rows L2 FM
/-! ### lists compared -/
theorem ok_str {x : Str} (h : okName x) : PyData.strOk x = true := by
  unfold PyData.strOk
  rw [← Array.all_toList, List.all_eq_true]
  intro c hc
  have hs : ∀ c ∈ SIGNS.cps.toList, decide (c < 0x110000) = true := by decide +kernel
  exact hs c (h.2.2 c hc)
theorem layS : ∀ xs : List Str, (∀ x ∈ xs, okName x) → PyData.canLayAll0 (xs.map PyData.str) = true
  | [], _ => rfl
  | x :: r, h => by simp [PyData.canLayAll0, PyData.canLay0, layS r (fun y hy => h y (List.mem_cons_of_mem _ hy)), ok_str (h x List.mem_cons_self)]
theorem depS : ∀ xs : List Str, PyData.depthAll (xs.map PyData.str) = 0
  | [] => rfl
  | _ :: r => by simp [PyData.depthAll, PyData.depth, depS r]
theorem shapeS {xs : List Str} (h : ∀ x ∈ xs, okName x) : SeqAt.shaped (.list (xs.map PyData.str)) = true := by
  simp [SeqAt.shaped, PyData.canLay0, PyData.depth, layS xs h, depS]
theorem layI : ∀ xs : List Int, PyData.canLayAll0 (xs.map PyData.int) = true
  | [] => rfl
  | _ :: r => by simp [PyData.canLayAll0, PyData.canLay0, layI r]
theorem depI : ∀ xs : List Int, PyData.depthAll (xs.map PyData.int) = 0
  | [] => rfl
  | _ :: r => by simp [PyData.depthAll, PyData.depth, depI r]
theorem shapeI (xs : List Int) : SeqAt.shaped (.list (xs.map PyData.int)) = true := by
  simp [SeqAt.shaped, PyData.canLay0, PyData.depth, layI, depI]
theorem eqvS : ∀ xs : List Str, PyData.eqvAll (xs.map PyData.str) (xs.map PyData.str) = true
  | [] => by simp [PyData.eqvAll]
  | x :: r => by simp [PyData.eqvAll, PyData.eqv, eqvS r]
theorem dpS {K : PySem.W.Frag} {H : Hp} : ∀ xs : List Str, DpAll K H (sV xs) (xs.map PyData.str)
  | [] => .nil
  | x :: r => .cons (.str x) (dpS r)
theorem dpI {K : PySem.W.Frag} {H : Hp} : ∀ xs : List Int, DpAll K H (xs.map V.int) (xs.map PyData.int)
  | [] => .nil
  | x :: r => .cons (.int x) (dpI r)
/-! ### paths, by places -/
theorem Pth.step {ws : List Way} {h : Str → Option Int} {g : Str} {ys : List Str} (p : Pth ws h g ys) : ∀ {i : Nat}, i + 1 < ys.length → ∃ y z m u v, ys[i]? = some y ∧ ys[i + 1]? = some z ∧ (y, z, m) ∈ ws ∧ h y = some u ∧ h z = some v ∧ u + m = v := by
  induction p with
  | one hg =>
    intro i hi
    simp at hi
  | @cons y z r m u v q e hy hz s ih =>
    intro i hi
    cases i with
    | zero => exact ⟨y, z, m, u, v, rfl, rfl, e, hy, hz, s⟩
    | succ i => exact ih (i := i) (by simpa using hi)
theorem Pth.last {ws : List Way} {h : Str → Option Int} {g : Str} {ys : List Str} (p : Pth ws h g ys) : ys[ys.length - 1]? = some g ∧ ∃ v, h g = some v := by
  induction p with
  | one hg => exact ⟨rfl, _, hg⟩
  | @cons y z r m u v q e hy hz s ih =>
    refine ⟨?_, ih.2⟩
    have := ih.1
    simpa using this
end FP
/-! FO -/
namespace FP
open PySem PySem.Spec PyProof.Rows L2 FM
theorem atI_refT {β : Type} {enc : β → List V} {H : Hp} {wp : List Addr} {ts : List β} (tp : Tups enc H wp ts) {i : Int} (h0 : 0 ≤ i) (h1 : i < (ts.length : Int)) : ∃ p b, b ∈ ts ∧ atI (wp.map V.ref) i = some (.ref p) ∧ H p = some (.tup (enc b)) := by
  have hl : i.toNat < (wp.map V.ref).length := by rw [List.length_map, tp.1]; omega
  obtain ⟨p, b, e, _, _, hb, hT⟩ := tp.at (i := i.toNat) (x := (wp.map V.ref)[i.toNat]) (List.getElem?_eq_getElem hl)
  refine ⟨p, b, hb, ?_, hT⟩
  unfold atI
  rw [List.length_map, ixN_nat h0 (by rw [tp.1]; exact h1)]
  show (wp.map V.ref)[i.toNat]? = _
  rw [List.getElem?_eq_getElem hl, e]
section
variable {P : Program} {w : World} {K : PySem.W.Frag} {mg : Str → Option Value} {base : Heap}
abbrev nTs : List Str := ["_law_script", "_law_at", "_law_names_here", "_law_places", "_law_lengths_here", "_law_trips_here", "_law_k", "_law_ahead"]
def spLtrips (K : PySem.W.Frag) : Sp := fun vs H Q _ => ∃ (a n q d : Addr) (ns : List Int) (at_ : Nat) (xs ps : List Str) (D : Tb Str) (kvs : List (List Key × V)), vs = [.ref a, .int (at_ : Int), .ref n, .ref q, .ref d] ∧ SqL K H a (ns.map V.int) ∧ H n = some (.lst (sV xs)) ∧ xs.length ≤ 40 ∧
  H q = some (.lst (sV ps)) ∧ 2 ≤ ps.length ∧ H d = some (.dT kvs) ∧ KD D kvs ∧ (∀ p ∈ ps, D p p = some 0) ∧ (∀ a b v, D a b = some v → 0 ≤ v ∧ v ≤ 4 * FAR) ∧
  ∀ H' l ts, Same H H' → LstT tV H' l ts → ts.map (·.nm) = xs → (∀ t ∈ ts, TrGood D ps t) → Q (.ref l) H'
theorem sc_ltrips : FnScope nTs ["_law_script", "_law_at", "_law_names_here", "_law_places", "_law_lengths_here"] (defScope st_ltrips) := ⟨rfl, rfl, rfl, by decide +kernel, rfl, by decide +kernel, by decide +kernel⟩
theorem ok_ltrips (T : Tx w K mg) : Ok P w K mg base 3 (He.ga K "_law_trips") ["_law_script", "_law_at", "_law_names_here", "_law_places", "_law_lengths_here"] (spLtrips K) := by
  obtain ⟨fdM, GM, kM, bM⟩ := ok_lmix (P := P) (base := base) T
  obtain ⟨fdT, GT, kT, bT⟩ := ok_ltrip (P := P) (base := base) T
  refine ok_of T.d_ltrips sc_ltrips (fun vs H Q E h => ?_) (fun _ _ _ _ _ _ us hl => match us, hl with | [_, _, _, _, _], _ => rfl) (fun cdv A outer s H vs Q E hr h => ?_)
  · obtain ⟨a, n, q, d, ns, at_, xs, ps, D, kvs, rfl, _⟩ := h
    rfl
  · obtain ⟨a, n, q, d, ns, at_, xs, ps, D, kvs, rfl, ha, hn, few, hq, h2, hd, kd, line, top, k⟩ := h
    refine ⟨_, pss_cons (ps_set (i := 5) sc_ltrips.nd rfl (Or.inl rfl) (pe_lst pa_nil))
      (pss_cons (ps_for PassesOwn.never rfl (pi_range1 (by rfl) T.n_range (pa_cons (pe_callB call_len_seq (by rfl) T.n_len PySem.boot_len (pa_cons (pv 2) pa_nil)) pa_nil)) (pg_name (i := 6) sc_ltrips.nd rfl (Or.inl rfl))
        (pss_cons (ps_set (i := 7) sc_ltrips.nd rfl (Or.inl rfl) pe_non)
        (Evl.pss_cut (ps_if (pt_cmpR op_gt (pv 6) pe_int (nomark _)) (pss_one (ps_set (i := 7) sc_ltrips.nd rfl (Or.inl rfl)
            (pe_ix ix_list (pv 5) (pe_op op_mod (pe_call GM hr rfl T.g__law_mix kM bM .nil pass0 (pa_cons (pv 0) (pa_cons (pe_op op_add (pe_op op_add (pv 1) (pe_op op_mul pe_int (pv 6))) pe_int) (pa_cons pe_int pa_nil)))) (pv 6)) (fun _ _ => rfl)))) pss_nil)
        (pss_one (ps_expr (pe_bm PySem.F.plainAttrs_list PySem.F.slot_list_append PySem.F.type_list_append mt_append (pv 5) (pa_cons
          (pe_call GT hr rfl T.g__law_trip kT bT .nil pass0 (pa_cons (pv 0) (pa_cons (pe_op op_add (pv 1) (pe_op op_mul pe_int (pv 6))) (pa_cons (pe_ix ix_list (pv 2) (pv 6) (fun _ _ => rfl)) (pa_cons (pv 3) (pa_cons (pv 4) (pa_cons (pv 7) pa_nil))))))) pa_nil)))))))
      (pss_one (ps_ret (pv 5)))), ?_⟩
    refine ⟨Nat.zero_le _, fun l hl => ?_⟩
    have s1 : Same H (upd H l (.lst [])) := same_new hl
    refine ⟨_, rfl, n, _, rfl, .inl (SqL.of (s1 _ _ hn)), _, rfl, Int.natCast_nonneg _, by rw [sV_len]; omega, ?_⟩
    rw [sV_len, Int.toNat_natCast]
    refine for_range (lo := 0) (n := xs.length) (fun i σ' H' => ∃ (v6 v7 : Option V) (wp : List Addr) (ts : List Tr), σ' = [some (.ref a), some (.int (at_ : Int)), some (.ref n), some (.ref q), some (.ref d), some (.ref l), v6, v7] ∧ Same H H' ∧ H' l = some (.lst (wp.map V.ref)) ∧ Tups tV H' wp ts ∧ ts.map (·.nm) = xs.take i ∧ ∀ t ∈ ts, TrGood D ps t)
      ⟨none, none, [], [], rfl, s1, upd_same, Tups.nil, by simp, fun e he => nomatch he⟩ ?_ ?_
    · rintro i σ H1 hi ⟨v6, v7, wp, ts, rfl, s2, h2l, tp, em, good⟩
      have lts : ts.length = i := by
        have := congrArg List.length em
        rw [List.length_map, List.length_take] at this
        omega
      have eI : (0 : Int) + (i : Int) = (i : Int) := Int.zero_add _
      refine ⟨fun σ' H' => ∃ (av : V), σ' = [some (.ref a), some (.int (at_ : Int)), some (.ref n), some (.ref q), some (.ref d), some (.ref l), some (.int (0 + (i : Int))), some av] ∧ H' = H1 ∧ AhV H1 D ps av, ?_, ?_⟩
      · refine ⟨_, rfl, _, _, rfl, rfl, _, rfl, ?_⟩
        by_cases hi0 : 0 < i
        · show if decide ((0 : Int) < 0 + (i : Int)) = true then _ else _
          rw [decide_eq_true (show (0 : Int) < 0 + (i : Int) by omega)]
          refine iteT ?_
          have m0 := Int.emod_nonneg (mixAt ns (at_ + 3 * i + 1) 65479) (show (0 : Int) + (i : Int) ≠ 0 by omega)
          have m1 := Int.emod_lt_of_pos (mixAt ns (at_ + 3 * i + 1) 65479) (show (0 : Int) < 0 + (i : Int) by omega)
          obtain ⟨p, t, ht, at1, hT⟩ := atI_refT tp m0 (by omega)
          refine ⟨_, rfl, _, rfl, _, rfl, _, rfl, _, _, rfl, rfl, .inl ⟨by omega, by omega⟩, _, _, rfl, rfl, _, _, rfl, rfl, a, ns, at_ + 3 * i + 1, 65479, (by show ([V.ref a, V.int ((at_ : Int) + 3 * (0 + (i : Int)) + 1), V.int 65479] : List V) = [V.ref a, V.int ((at_ + 3 * i + 1 : Nat) : Int), V.int 65479]; rw [Int.zero_add]; rfl), s2.seq ha, by decide,
            _, rfl, _, _, rfl, rfl, by omega, l, _, _, _, rfl, rfl, SqL.of h2l, at1, ?_⟩
          exact ⟨.ref p, rfl, rfl, .inr ⟨p, t, rfl, hT, good t ht⟩⟩
        · show if decide ((0 : Int) < 0 + (i : Int)) = true then _ else _
          rw [decide_eq_false (show ¬ (0 : Int) < 0 + (i : Int) by omega)]
          exact iteF ⟨.non, rfl, rfl, .inl rfl⟩
      · rintro σ2 H2 ⟨av, rfl, rfl, hav⟩
        obtain ⟨y, hy⟩ : ∃ y, xs[i]? = some y := ⟨_, List.getElem?_eq_getElem hi⟩
        refine ⟨_, rfl, .inl ⟨rfl, _, SqL.of h2l⟩, _, rfl, _, rfl, _, rfl, _, _, rfl, rfl, .inl ⟨by omega, by omega⟩, _, _, rfl, rfl, _, rfl, _, rfl, n, _, _, _, rfl, rfl, SqL.of (s2 _ _ hn), (by rw [eI]; exact atI_nat (show (sV xs)[i]? = some (.str y) by rw [List.getElem?_map, hy]; rfl)), _, rfl, _, rfl, _, rfl, a, q, d, ns, at_ + 3 * i, y, ps, D, kvs, av, (by show ([V.ref a, V.int ((at_ : Int) + 3 * (0 + (i : Int))), V.str y, V.ref q, V.ref d, av] : List V) = [V.ref a, V.int ((at_ + 3 * i : Nat) : Int), V.str y, V.ref q, V.ref d, av]; rw [Int.zero_add]; rfl), s2.seq ha, s2 _ _ hq, h2, s2 _ _ hd, kd, line, top, hav, fun H3 t tr s3 t0 hT en good2 => ?_⟩
        refine ⟨l, _, _, rfl, rfl, s3 _ _ h2l, by rw [List.length_map, tp.1]; exact small1000 (by omega), ?_⟩
        obtain ⟨wp2, hw, tp2⟩ := lstT_snoc h2l tp s3 t0 hT
        refine ⟨_, _, wp2, ts ++ [tr], rfl, same_mut (s2.trans s3) hl, hw, tp2, ?_, fun e he => ?_⟩
        · rw [List.map_append, em, take_next hy, ← en]
          rfl
        · rcases List.mem_append.mp he with he | he
          · exact good e he
          · rw [List.mem_singleton.mp he]
            exact good2
    · rintro σ H1 ⟨v6, v7, wp, ts, rfl, s2, h2l, tp, em, good⟩
      rw [List.take_length] at em
      exact ⟨_, rfl, k H1 l ts s2 ⟨wp, h2l, tp⟩ em good⟩
/-! ### whole -/
end
end FP
/-! FW -/
namespace FP
open PySem PySem.Spec PyProof.Rows L2 FM
section
variable {P : Program} {w : World} {K : PySem.W.Frag} {mg : Str → Option Value} {base : Heap}
/-! ### whole -/
def spLwhole : Sp := fun vs H Q _ => ∃ i : Int, vs = [.int i] ∧ Q (.bl true) H
theorem sc_lwhole : FnScope ["_law_found"] ["_law_found"] (defScope st_lwhole) := ⟨rfl, rfl, rfl, by decide +kernel, rfl, by decide +kernel, by decide +kernel⟩
theorem ok_lwhole (T : Tx w K mg) : Ok P w K mg base 1 (He.ga K "_law_whole") ["_law_found"] spLwhole := by
  refine ok_of T.d_lwhole sc_lwhole (fun vs H Q E h => ?_) (fun _ _ _ _ _ _ us hl => match us, hl with | [_], _ => rfl) (fun cdv A outer s H vs Q E hr h => ?_)
  · obtain ⟨i, rfl, _⟩ := h
    rfl
  · obtain ⟨i, rfl, k⟩ := h
    refine ⟨_, pss_one (ps_ret (pe_and (pe_callB call_isi (by rfl) T.n_isinstance (by decide +kernel) (pa_cons (pv 0) (pa_cons (pe_bltn (v := .ty "int") rfl T.n_int (by decide +kernel) rfl) pa_nil)))
      (pe_one (pe_not (pe_callB call_isi (by rfl) T.n_isinstance (by decide +kernel) (pa_cons (pv 0) (pa_cons (pe_bltn (v := .ty "bool") rfl T.n_bool (by decide +kernel) rfl) pa_nil))))))), ?_⟩
    refine ⟨_, rfl, _, _, _, _, true, rfl, .ty "int", .base (.int i), kit_ty (by decide +kernel), _, rfl, ?_⟩
    refine iteT ?_
    refine ⟨_, rfl, _, _, _, _, false, rfl, .ty "bool", .base (.int i), kit_ty (by decide +kernel), _, rfl, ?_⟩
    exact k
/-! ### driven -/
def stepsOf (ws : List Way) (y z : Str) : List Int := (ws.filter fun e => decide (e.1 = y) && decide (e.2.1 = z)).map (·.2.2)
theorem stepsOf_mem {ws : List Way} {y z : Str} {m : Int} (h : (y, z, m) ∈ ws) : m ∈ stepsOf ws y z := List.mem_map.mpr ⟨(y, z, m), List.mem_filter.mpr ⟨h, by simp⟩, rfl⟩
theorem stepsOf_next {ws : List Way} {j : Nat} {e : Way} {y z : Str} (h : ws[j]? = some e) : stepsOf (ws.take (j + 1)) y z = stepsOf (ws.take j) y z ++ (if e.1 = y ∧ e.2.1 = z then [e.2.2] else []) := by
  unfold stepsOf
  rw [take_next h, List.filter_append, List.map_append]
  by_cases c : e.1 = y ∧ e.2.1 = z
  · rw [if_pos c, List.filter_cons, if_pos (by simp [c])]
    rfl
  · rw [if_neg c, List.filter_cons, if_neg (by simpa using c)]
    rfl
theorem stepsOf_len (ws : List Way) (y z : Str) : (stepsOf ws y z).length ≤ ws.length := by
  unfold stepsOf
  rw [List.length_map]
  exact List.length_filter_le ..
abbrev nD : List Str := ["_law_way", "_law_one", "_law_other", "_law_ways_here", "_law_minutes", "_law_k", "_law_steps", "_law_step"]
def spLdriven : Sp := fun vs H Q _ => ∃ (p b : Addr) (o g : Str) (r : List Str) (ws : List Way) (h : Str → Option Int) (v : Int), vs = [.ref p, .str o, .str g, .ref b] ∧ H p = some (.lst (sV (o :: r))) ∧ (∀ x ∈ o :: r, okName x) ∧ Pth ws h g (o :: r) ∧ h o = some 0 ∧ h g = some v ∧
  LstT wV H b ws ∧ (o :: r).length ≤ 40 ∧ ws.length ≤ 40 ∧ ∀ H' m, Same H H' → m ≤ v → Q (.int m) H'
theorem sc_ldriven : FnScope nD ["_law_way", "_law_one", "_law_other", "_law_ways_here"] (defScope st_ldriven) := ⟨rfl, rfl, rfl, by decide +kernel, rfl, by decide +kernel, by decide +kernel⟩
theorem ok_ldriven (T : Tx w K mg) : Ok P w K mg base 1 (He.ga K "_law_driven") ["_law_way", "_law_one", "_law_other", "_law_ways_here"] spLdriven := by
  refine ok_of T.d_ldriven sc_ldriven (fun vs H Q E h => ?_) (fun _ _ _ _ _ _ us hl => match us, hl with | [_, _, _, _], _ => rfl) (fun cdv A outer s H vs Q E hr h => ?_)
  · obtain ⟨p, b, o, g, r, ws, h, v, rfl, _⟩ := h
    rfl
  · obtain ⟨p, b, o, g, r, ws, h, v, rfl, hp, okn, path, ho, hg, hb, few, fewW, k⟩ := h
    have hu := hr.units
    refine ⟨_, pss_cons (ps_if (PW.pt (pw_or (pt_not (pt_val (pe_callB call_isi (by rfl) T.n_isinstance (by decide +kernel) (pa_cons (pv 0) (pa_cons (pe_bltn (v := .ty "list") rfl T.n_list (by decide +kernel) rfl) pa_nil)))))
        (pw_or (pt_cmpR (op_eqD hu) (pv 0) (pe_lst pa_nil) (nomark _)) (pw_or (pt_cmpR op_ne (pe_ix ix_list (pv 0) pe_int (fun _ _ => rfl)) (pv 1) (nomark _)) (pw_or1 (pt_cmpR op_ne (pe_ix ix_list (pv 0) (pe_un un_neg pe_int) (fun _ _ => rfl)) (pv 2) (nomark _)))))))
        (pss_one (ps_ret pe_non)) pss_nil)
      (pss_cons (ps_set (i := 4) sc_ldriven.nd rfl (Or.inl rfl) pe_int)
      (pss_cons (ps_for PassesOwn.never rfl (pi_range1 (by rfl) T.n_range (pa_cons (pe_op op_sub (pe_callB call_len_seq (by rfl) T.n_len PySem.boot_len (pa_cons (pv 0) pa_nil)) pe_int) pa_nil)) (pg_name (i := 5) sc_ldriven.nd rfl (Or.inr rfl))
        (pss_cons (ps_setLc (i := 6) (own := [("_law_step", 7)]) (g := gName 7) rfl sc_ldriven.nd rfl rfl (sw_true rfl rfl rfl (by decide +kernel)) (pi_list (pv 3)) (blkOk_by (N := nD) (sc := defScope st_ldriven) (by decide +kernel)) (fun _ _ _ _ _ => pg_name (i := 7) sc_ldriven.nd rfl (Or.inl rfl))
            (fun _ _ _ _ _ => pts_one (PW.pt (pw_and (pt_cmpR op_eq (pe_ix (r := rIxT K) ix_tup (pv 7) pe_int (fun _ _ => rfl)) (pe_ix (r := rIxL K) ix_list (pv 0) (pv 5) (fun _ _ => rfl)) (nomark _))
              (pw_and1 (pt_cmpR op_eq (pe_ix (r := rIxT K) ix_tup (pv 7) pe_int (fun _ _ => rfl)) (pe_ix (r := rIxL K) ix_list (pv 0) (pe_op op_add (pv 5) pe_int) (fun _ _ => rfl)) (nomark _)))))) (fun _ _ _ _ _ => pe_ix (r := rIxT K) ix_tup (pv 7) pe_int (fun _ _ => rfl)))
        (pss_cons (ps_if (pt_cmpR (op_eqD hu) (pv 6) (pe_lst pa_nil) (nomark _)) (pss_one (ps_ret pe_non)) pss_nil)
        (pss_one (ps_set (i := 4) sc_ldriven.nd rfl (Or.inl rfl) (pe_op op_add (pv 4) (pe_callB (cr_min rfl) (by rfl) T.n_min (by decide +kernel) (pa_cons (pv 6) pa_nil))))))))
      (pss_one (ps_ret (pv 4))))), ?_⟩
    obtain ⟨wp, hb1, hb2⟩ := id hb
    have lw : (wp.map V.ref).length = ws.length := by rw [List.length_map]; exact hb2.1
    have lys : (sV (o :: r)).length = (o :: r).length := sV_len _
    obtain ⟨last, _⟩ := path.last
    -- it is a way
    refine ⟨_, rfl, _, _, _, _, true, rfl, .ty "list", .base (.lst hp), kit_ty (by decide +kernel), _, rfl, ?_⟩
    refine iteF ?_
    refine ⟨_, rfl, Nat.zero_le _, fun e0 he0 => ?_⟩
    have s1 := same_new (o := .lst []) he0
    refine ⟨_, _, .lst (SqL.of (s1 _ _ hp)) (dpS (o :: r)), .lst (SqL.of upd_same) .nil, shapeS okn, by decide +kernel, _, rfl, ?_⟩
    refine iteF ?_
    have at0 : atI (sV (o :: r)) 0 = some (.str o) := atI_nat (j := 0) rfl
    refine ⟨_, rfl, p, _, _, _, rfl, rfl, SqL.of (s1 _ _ hp), at0, _, rfl, rfl, _, rfl, ?_⟩
    show if (!decide (V.str o = V.str o)) = true then _ else _
    rw [decide_eq_true rfl]
    refine iteF ?_
    have atL : atI (sV (o :: r)) (-1) = some (.str g) := by
      have hl : 0 < (o :: r).length := Nat.succ_pos _
      unfold atI ixN
      rw [if_neg (by omega), if_pos (by rw [lys]; omega)]
      show (sV (o :: r))[(-1 + ((sV (o :: r)).length : Int)).toNat]? = _
      rw [lys, show (-1 + ((o :: r).length : Int)).toNat = (o :: r).length - 1 by omega, List.getElem?_map, last]
      rfl
    refine ⟨_, rfl, _, rfl, p, _, _, _, rfl, rfl, SqL.of (s1 _ _ hp), atL, _, rfl, rfl, _, rfl, ?_⟩
    show if (!decide (V.str g = V.str g)) = true then _ else _
    rw [decide_eq_true rfl]
    refine iteF ?_
    -- the steps
    generalize hys : o :: r = ys at *
    have y0 : ys[0]? = some o := by rw [← hys]; rfl
    have yp : 0 < ys.length := by rw [← hys]; exact Nat.succ_pos _
    revert s1
    generalize upd H e0 (.lst []) = H1
    intro s1
    refine ⟨_, rfl, p, _, rfl, .inl (SqL.of (s1 _ _ hp)), _, _, rfl, rfl, _, rfl, by rw [lys]; omega, by rw [lys]; omega, ?_⟩
    rw [lys, show ((ys.length : Int) - 1).toNat = ys.length - 1 by omega]
    refine for_range (lo := 0) (n := ys.length - 1) (fun i σ' H' => ∃ (v5 v6 : Option V) (m u : Int) (y : Str), σ' = [some (.ref p), some (.str o), some (.str g), some (.ref b), some (.int m), v5, v6, none] ∧ Same H H' ∧ ys[i]? = some y ∧ h y = some u ∧ m ≤ u)
      ⟨none, none, 0, 0, o, rfl, s1, y0, ho, Int.le_refl _⟩ ?_ ?_
    · rintro i σ H2 hi ⟨v5, v6, m, u, y, rfl, s2, hy, hu1, le⟩
      obtain ⟨y', z, mw, u', v', hy', hz, hw, hu', hv', sum⟩ := path.step (i := i) (by omega)
      rw [hy] at hy'
      cases hy'
      rw [hu1] at hu'
      cases hu'
      have eI : (0 : Int) + (i : Int) = (i : Int) := Int.zero_add _
      have atY : atI (sV ys) (0 + (i : Int)) = some (.str y) := by rw [eI]; exact atI_nat (show (sV ys)[i]? = some (.str y) by rw [List.getElem?_map, hy]; rfl)
      have atZ : atI (sV ys) (0 + (i : Int) + 1) = some (.str z) := by rw [eI]; exact atI_nat (j := i + 1) (show (sV ys)[i + 1]? = some (.str z) by rw [List.getElem?_map, hz]; rfl)
      refine ⟨_, rfl, b, rfl, ⟨_, SqL.of (s2 _ _ hb1)⟩, fun D hD => ?_⟩
      refine lc_list (K := K) (a := b) (xs := wp.map V.ref) (fun j H' => Same H2 H' ∧ H' D = some (.lst ((stepsOf (ws.take j) y z).map V.int))) ⟨same_new hD, upd_same⟩ (fun j H' _ q => SqL.of (q.1 _ _ (s2 _ _ hb1))) ?_ ?_
      · rintro j x H3 hj ⟨s3, h3⟩
        obtain ⟨q, e, rfl, hq, he, hm, hT⟩ := hb2.at hj
        have hjl := (List.getElem?_eq_some_iff.mp he).1
        have hT3 := s3 _ _ (s2 _ _ hT)
        have hp3 := s3 _ _ (s2 _ _ hp)
        have nx := stepsOf_next (y := y) (z := z) he
        refine ⟨rfl, ?_⟩
        refine ⟨_, rfl, q, wV e, 0, .str e.1, rfl, rfl, SqT.of hT3, rfl, _, rfl, _, rfl, p, _, _, _, rfl, rfl, SqL.of hp3, atY, rfl, _, rfl, ?_⟩
        by_cases c1 : e.1 = y
        · rw [decide_eq_true (show V.str e.1 = V.str y by rw [c1])]
          refine iteT ?_
          refine ⟨_, rfl, q, wV e, 1, .str e.2.1, rfl, rfl, SqT.of hT3, rfl, _, rfl, _, rfl, _, _, rfl, rfl, p, _, _, _, rfl, rfl, SqL.of hp3, atZ, rfl, _, rfl, ?_⟩
          by_cases c2 : e.2.1 = z
          · rw [decide_eq_true (show V.str e.2.1 = V.str z by rw [c2])]
            refine iteT ?_
            rw [if_pos ⟨c1, c2⟩] at nx
            refine ⟨_, rfl, q, wV e, 2, .int e.2.2, rfl, rfl, SqT.of hT3, rfl, _, h3, ?_, same_mut s3 hD, ?_⟩
            · rw [List.length_map]
              have := stepsOf_len (ws.take j) y z
              rw [List.length_take] at this
              exact small1000 (by omega)
            · rw [upd_same, nx, List.map_append]
              rfl
          · rw [decide_eq_false (show ¬ V.str e.2.1 = V.str z by intro w; injection w with w; exact c2 w)]
            refine iteF ?_
            rw [if_neg (fun w => c2 w.2), List.append_nil] at nx
            exact ⟨s3, by rw [nx]; exact h3⟩
        · rw [decide_eq_false (show ¬ V.str e.1 = V.str y by intro w; injection w with w; exact c1 w)]
          refine iteF (iteF ?_)
          rw [if_neg (fun w => c1 w.1), List.append_nil] at nx
          exact ⟨s3, by rw [nx]; exact h3⟩
      · rintro H3 ⟨s3, h3⟩
        rw [lw, List.take_length] at h3
        have inS := stepsOf_mem hw
        have lst := stepsOf_len ws y z
        generalize stepsOf ws y z = st at h3 inS lst
        refine ⟨_, rfl, Nat.zero_le _, fun e1 he1 => ?_⟩
        have s4 := same_new (o := .lst []) he1
        refine ⟨_, _, .lst (SqL.of (s4 _ _ h3)) (dpI st), .lst (SqL.of upd_same) .nil, shapeI st, by decide +kernel, _, rfl, ?_⟩
        cases st with
        | nil => cases inS
        | cons a st =>
          refine iteF ?_
          refine ⟨_, rfl, _, rfl, D, _, rfl, SqL.of (s4 _ _ h3), Nat.succ_pos _, fun mn hmn least => ?_⟩
          refine ⟨_, _, rfl, rfl, _, _, m + mn, v', z, rfl, (s2.trans s3).trans s4, hz, hv', ?_⟩
          have := least mw inS
          omega
    · rintro σ H2 ⟨v5, v6, m, u, y, rfl, s2, hy, hu1, le⟩
      rw [hy] at last
      cases last
      rw [hg] at hu1
      cases hu1
      exact ⟨_, rfl, k H2 m s2 le⟩
end
end FP
/-! FX -/
namespace FP
open PySem PySem.Spec PyProof.Rows L2 FM
theorem mutD {kvs : List (Key × V)} : Mut (some (.dK kvs)) := by first | exact True.intro | rfl | exact Or.inl ⟨_, rfl⟩ | trivial
theorem same_unlock {H H' : Hp} {d : Addr} {u v : HO} (hd : H d = some u) (s : Same (upd H d v) H') : Same H (upd H' d u) := fun b o e => by
  by_cases c : b = d
  · rw [c, upd_same, ← e, c, hd]
  · rw [upd_ne c]
    exact s _ _ ((upd_ne c).trans e)
section
variable {P : Program} {w : World} {K : PySem.W.Frag} {mg : Str → Option Value} {base : Heap}
abbrev nP : List Str := ["_law_heights", "_law_origin", "_law_ways_here", "_law_one", "_law_other", "_law_minutes", "_law_height"]
def spLpaper : Sp := fun vs H Q _ => ∃ (d b : Addr) (o : Str) (hs : List (Str × Int)) (ws : List Way), vs = [.ref d, .str o, .ref b] ∧ H d = some (.dK (encH hs)) ∧ HS ws o (lk hs) ∧ LstT wV H b ws ∧ hs.length ≤ 900 ∧ ∀ H', Same H H' → Q (.bl true) H'
theorem sc_lpaper : FnScope nP ["_law_heights", "_law_origin", "_law_ways_here"] (defScope st_lpaper) := ⟨rfl, rfl, rfl, by decide +kernel, rfl, by decide +kernel, by decide +kernel⟩
theorem ok_lpaper (T : Tx w K mg) : Ok P w K mg base 2 (He.ga K "_law_paper") ["_law_heights", "_law_origin", "_law_ways_here"] spLpaper := by
  obtain ⟨fdW, GW, kW, bW⟩ := ok_lwhole (P := P) (base := base) T
  refine ok_of T.d_lpaper sc_lpaper (fun vs H Q E h => ?_) (fun _ _ _ _ _ _ us hl => match us, hl with | [_, _, _], _ => rfl) (fun cdv A outer s H vs Q E hr h => ?_)
  · obtain ⟨d, b, o, hs, ws, rfl, _⟩ := h
    rfl
  · obtain ⟨d, b, o, hs, ws, rfl, hd, S, hb, few, k⟩ := h
    have hu := hu_of hr
    refine ⟨_, pss_cons (ps_if (PW.pt (pw_or (pt_not (pt_val (pe_callB call_isi (by rfl) T.n_isinstance (by decide +kernel) (pa_cons (pv 0) (pa_cons (pe_bltn (v := .ty "dict") rfl T.n_dict (by decide +kernel) rfl) pa_nil)))))
        (pw_or1 (pt_cmpR op_ne (pe_dget1 hu (pv 0) (pv 1) ⟨rfl, rfl, rfl, rfl⟩) pe_int (nomark _)))))
        (pss_one (ps_ret pe_bl)) pss_nil)
      (pss_cons (ps_if (pt_not (pt_val (pe_callB (cr_all rfl) (by rfl) T.n_all (by decide +kernel) (pa_cons (pe_lock (pe_lc (own := [("_law_height", 6)]) (g := gName 6) rfl sc_lpaper.nd (pi_values (pv 0)) (blkOk_by (N := nP) (sc := defScope st_lpaper) (by decide +kernel)) (fun _ _ _ _ _ => pg_name (i := 6) sc_lpaper.nd rfl (Or.inl rfl))
            (fun _ _ _ _ _ => pts_nil) (fun _ _ _ _ _ => pe_call GW hr rfl T.g__law_whole kW bW .nil pass0 (pa_cons (pv 6) pa_nil)))) pa_nil))))
        (pss_one (ps_ret pe_bl)) pss_nil)
      (pss_cons (ps_for PassesOwn.never rfl (pi_list (pv 2)) (pg_tup rfl (pgs_cons (pg_name (i := 3) sc_lpaper.nd rfl (Or.inl rfl)) (pgs_cons (pg_name (i := 4) sc_lpaper.nd rfl (Or.inl rfl)) (pgs_cons (pg_name (i := 5) sc_lpaper.nd rfl (Or.inl rfl)) pgs_nil))))
        (pss_one (ps_if (pt_cmp (pc_din hu (pv 3) (pv 0)))
          (pss_one (ps_if (PW.pt (pw_or (pt_cmp (pc_dnotin hu (pv 4) (pv 0))) (pw_or1 (pt_cmpR op_gt (pe_dget hu (pv 0) (pv 4) (fun _ _ => rfl)) (pe_op op_add (pe_dget hu (pv 0) (pv 3) (fun _ _ => rfl)) (pv 5)) (nomark _)))))
            (pss_one (ps_ret pe_bl)) pss_nil)) pss_nil)))
      (pss_one (ps_ret pe_bl)))), ?_⟩
    obtain ⟨wp, hb1, hb2⟩ := id hb
    have lw : (wp.map V.ref).length = ws.length := by rw [List.length_map]; exact hb2.1
    refine ⟨_, rfl, _, _, _, _, true, rfl, .ty "dict", .base (.dK hd), kit_ty (by decide +kernel), _, rfl, ?_⟩
    refine iteF ?_
    refine ⟨_, rfl, d, rfl, .inl ⟨_, .inl hd⟩, _, rfl, _, DGet.k (k := Sum.inr o) hd, ?_⟩
    rw [encH_val, getD_optV, S.o0]
    refine ⟨rfl, _, rfl, ?_⟩
    refine iteF ?_
    -- all whole
    refine ⟨d, _, hd, mutD, fun od => ?_⟩
    refine ⟨_, rfl, d, od, encH hs, rfl, upd_same, fun D hD => ?_⟩
    generalize hHl : upd H d (.frz od (.dK (encH hs))) = Hl at hD
    have hl : Hl d = some (.frz od (.dK (encH hs))) := by rw [← hHl]; exact upd_same
    have ndD : d ≠ D := ne_of_none hl hD
    refine lc_it (walk_values (d := d) (o := od) (kvs := encH hs)) (fun j H' => Same Hl H' ∧ H' D = some (.lst ((List.replicate j true).map V.bl))) ⟨same_new hD, upd_same⟩ (fun j H' _ q => q.1 _ _ hl) ?_ ?_
    · rintro j x H3 H4 hj ⟨s3, h3⟩ ⟨rfl, key, hx⟩
      obtain ⟨y, rfl⟩ : ∃ y : Int, x = .int y := by
        unfold encH at hx
        rw [List.getElem?_map] at hx
        cases e : hs[j]? with
        | none => rw [e] at hx; cases hx
        | some p => rw [e] at hx; exact ⟨p.2, (Prod.mk.inj (Option.some.inj hx)).2.symm⟩
      refine ⟨rfl, ?_⟩
      refine ⟨_, rfl, y, rfl, ?_⟩
      refine ⟨_, h3, ?_, same_mut s3 hD, ?_⟩
      · rw [List.length_map, List.length_replicate]
        rw [encH_len] at hj
        exact small1000 (by omega)
      · rw [upd_same, List.replicate_succ', List.map_append]
        rfl
    · rintro H3 ⟨s3, h3⟩
      refine ⟨s3 _ _ hl, ?_⟩
      have s4 : Same H (upd H3 d (.dK (encH hs))) := same_unlock hd (by rw [hHl]; exact s3)
      have h4 : (upd H3 d (.dK (encH hs))) D = some (.lst ((List.replicate (encH hs).length true).map V.bl)) := by rw [upd_ne ndD.symm]; exact h3
      revert s4 h4
      generalize upd H3 d (.dK (encH hs)) = H4
      intro s4 h4
      refine ⟨D, _, rfl, SqL.of h4, _, rfl, ?_⟩
      have ea : (List.replicate (encH hs).length true).all id = true := by simp
      rw [ea]
      refine iteF ?_
      -- the ways
      refine ⟨_, rfl, b, rfl, ⟨_, SqL.of (s4 _ _ hb1)⟩, for_list (K := K) (a := b) (xs := wp.map V.ref)
        (fun i σ H' => ∃ v3 v4 v5, σ = [some (.ref d), some (.str o), some (.ref b), v3, v4, v5, none] ∧ H' = H4)
        ⟨none, none, none, rfl, rfl⟩ (fun i σ H' _ ⟨_, _, _, _, e⟩ => SqL.of (by rw [e]; exact s4 _ _ hb1)) ?_ ?_⟩
      · rintro i x σ H5 hi ⟨v3, v4, v5, rfl, rfl⟩
        obtain ⟨q, e, rfl, hq, he, hm, hT⟩ := hb2.at hi
        have hd4 := s4 _ _ hd
        refine ⟨q, _, rfl, SqT.of (s4 _ _ hT), rfl, _, _, rfl, _, _, rfl, _, _, rfl, rfl, ?_⟩
        refine ⟨_, rfl, _, rfl, d, _, rfl, DGet.k (k := Sum.inr e.1) hd4, _, rfl, ?_⟩
        rw [encH_val]
        cases e1 : lk hs e.1 with
        | none => exact iteF ⟨_, _, _, rfl, rfl⟩
        | some v =>
          refine iteT ?_
          obtain ⟨u, hu1, le⟩ := S.clos e.1 e.2.1 e.2.2 v hm e1
          have hv1 : valV (encH hs) (Sum.inr e.1 : Key) = some (.int v) := by rw [encH_val, e1]; rfl
          have hv2 : valV (encH hs) (Sum.inr e.2.1 : Key) = some (.int u) := by rw [encH_val, hu1]; rfl
          refine ⟨_, rfl, _, rfl, d, _, rfl, DGet.k (k := Sum.inr e.2.1) hd4, _, rfl, ?_⟩
          rw [encH_val, hu1]
          refine iteF ?_
          refine ⟨_, rfl, _, rfl, d, _, rfl, (by rw [← hv2]; exact DGet.k (k := Sum.inr e.2.1) hd4), _, rfl, _, rfl, d, _, rfl, (by rw [← hv1]; exact DGet.k (k := Sum.inr e.1) hd4), _, rfl, _, _, rfl, rfl, _, _, rfl, rfl, _, rfl, ?_⟩
          show if decide (v + e.2.2 < u) = true then _ else _
          rw [decide_eq_false (show ¬ v + e.2.2 < u by omega)]
          exact iteF ⟨_, _, _, rfl, rfl⟩
      · rintro σ H5 ⟨v3, v4, v5, rfl, rfl⟩
        exact k H5 s4
end
end FP
/-! FY -/
namespace FP
open PySem PySem.Spec PyProof.Rows L2 FM
theorem flat_sV : ∀ xs : List Str, (sV xs).all flatV = true
  | [] => rfl
  | x :: r => by
    show (flatV (.str x) && (sV r).all flatV) = true
    rw [flat_sV r]
    rfl
theorem inV_s (x : Str) (xs : List Str) : inV (.str x) (sV xs) = decide (x ∈ xs) := by
  unfold inV
  rw [Bool.eq_iff_iff, decide_eq_true_iff, List.any_eq_true]
  constructor
  · rintro ⟨v, hv, e⟩
    obtain ⟨y, hy, rfl⟩ := List.mem_map.mp hv
    have : y = x := by simpa [eqV] using e
    rw [← this]
    exact hy
  · intro h
    exact ⟨.str x, List.mem_map.mpr ⟨x, h, rfl⟩, by simp [eqV]⟩
/-! ### links, plainly -/
theorem linkB_iff {hh : Str → List (Str × Int)} {t u : Tr} : linkB hh t u = true ↔ ∃ m, lk (hh t.g) u.o = some m ∧ t.fi + m ≤ u.st := by
  unfold linkB
  cases e : lk (hh t.g) u.o with
  | none => simp
  | some m =>
    simp only [decide_eq_true_iff, Option.some.injEq, exists_eq_left']
    omega
theorem link_lt {ps : List Str} {ws : List Way} {hh : Str → List (Str × Int)} {F : Int} (M : Mapd ps ws F) (S : ∀ x ∈ ps, HS ws x (lk (hh x))) {t u : Tr} (ht : TrOk ps hh t) (h : linkB hh t u = true) : t.st < u.st := by
  obtain ⟨m, hm, le⟩ := linkB_iff.mp h
  have := (S _ ht.g).nonneg (fun e he => (M.len e he).1) hm
  have := ht.lt
  omega
theorem link_trans {ps : List Str} {ws : List Way} {hh : Str → List (Str × Int)} (S : ∀ x ∈ ps, HS ws x (lk (hh x))) {t u v : Tr} (ht : TrOk ps hh t) (hu : TrOk ps hh u) (h1 : linkB hh t u = true) (h2 : linkB hh u v = true) : linkB hh t v = true := by
  obtain ⟨m, hm, le⟩ := linkB_iff.mp h1
  obtain ⟨m2, hm2, le2⟩ := linkB_iff.mp h2
  obtain ⟨l, hl, le3⟩ := hu.way
  obtain ⟨a, ha, lea⟩ := (S _ ht.g).tri (S _ hu.o) hm hl
  obtain ⟨b, hb, leb⟩ := (S _ ht.g).tri (S _ hu.g) ha hm2
  exact linkB_iff.mpr ⟨b, hb, by omega⟩
/-- what stands in the told dict's row of t -/
theorem row_mem {hh : Str → List (Str × Int)} {ts : List Tr} {ys : List Str} (nd : (ts.map (·.nm)).Nodup) (pm : ys.Perm (ts.map (·.nm))) {t u : Tr} (ht : t ∈ ts) (hu : u ∈ ts) : u.nm ∈ ys.filter (lkN hh ts t.nm) ↔ linkB hh t u = true := by
  rw [List.mem_filter, lkN_eq nd ht hu]
  exact ⟨fun z => z.2, fun z => ⟨pm.mem_iff.mpr (List.mem_map.mpr ⟨u, hu, rfl⟩), z⟩⟩
theorem Pth.mem {ws : List Way} {h : Str → Option Int} {g : Str} {ys ps : List Str} (p : Pth ws h g ys) (on : ∀ e ∈ ws, e.1 ∈ ps ∧ e.2.1 ∈ ps) (hg : g ∈ ps) : ∀ y ∈ ys, y ∈ ps := by
  induction p with
  | one _ => intro y hy; rw [List.mem_singleton.mp hy]; exact hg
  | cons q e _ _ _ ih =>
    intro x hx
    rcases List.mem_cons.mp hx with rfl | hx
    · exact (on _ e).1
    · exact ih x hx
/-- the told dict stands at d -/
structure Told (H : Hp) (d : Addr) (hh : Str → List (Str × Int)) (ts : List Tr) (rs : List (Str × Addr)) : Prop where
  at_ : H d = some (.dK (rowD rs))
  pm : (rs.map (·.1)).Perm (ts.map (·.nm))
  row : ∀ r ∈ rs, H r.2 = some (.lst (sV ((rs.map (·.1)).filter (lkN hh ts r.1))))
theorem Told.mono {H H' : Hp} {d : Addr} {hh : Str → List (Str × Int)} {ts : List Tr} {rs : List (Str × Addr)} (s : Same H H') (R : Told H d hh ts rs) : Told H' d hh ts rs := ⟨s _ _ R.at_, R.pm, fun r hr => s _ _ (R.row r hr)⟩
theorem Told.get {H : Hp} {d : Addr} {hh : Str → List (Str × Int)} {ts : List Tr} {rs : List (Str × Addr)} (R : Told H d hh ts rs) (nd : (ts.map (·.nm)).Nodup) {t : Tr} (ht : t ∈ ts) : ∃ r, valV (rowD rs) (Sum.inr t.nm : Key) = some (.ref r) ∧ H r = some (.lst (sV ((rs.map (·.1)).filter (lkN hh ts t.nm)))) := by
  have hm := R.pm.mem_iff.mpr (List.mem_map.mpr ⟨t, ht, rfl⟩)
  obtain ⟨r, hr, e⟩ := List.mem_map.mp hm
  have e : r.1 = t.nm := e
  rw [← e]
  exact ⟨r.2, rowD_some ((R.pm.nodup_iff).mpr nd) hr, R.row r hr⟩
section
variable {P : Program} {w : World} {K : PySem.W.Frag} {mg : Str → Option Value} {base : Heap}
abbrev nB : List Str := ["_law_one", "_law_other", "_law_told", "_law_roads", "_law_ways_here", "_law_row", "_law_minutes", "_law_name"]
def spLbehind (K : PySem.W.Frag) : Sp := fun vs H Q _ => ∃ (a c d rp b : Addr) (t u : Tr) (ps : List Str) (ws : List Way) (hh : Str → List (Str × Int)) (ts : List Tr) (rs : List (Str × Addr)) (F : Int), vs = [.ref a, .ref c, .ref d, .ref rp, .ref b] ∧ H a = some (.tup (tV t)) ∧ H c = some (.tup (tV u)) ∧
  Told H d hh ts rs ∧ RoadsAt (He.ga K "Roads") H rp ps ws hh ∧ Mapd ps ws F ∧ LstT wV H b ws ∧ ws.length ≤ 40 ∧ (ts.map (·.nm)).Nodup ∧ (∀ t ∈ ts, TrOk ps hh t) ∧ ts.length ≤ 40 ∧ t ∈ ts ∧ u ∈ ts ∧ linkB hh t u = true ∧ ∀ H', Same H H' → Q (.bl true) H'
theorem sc_lbehind : FnScope nB ["_law_one", "_law_other", "_law_told", "_law_roads", "_law_ways_here"] (defScope st_lbehind) := ⟨rfl, rfl, rfl, by decide +kernel, rfl, by decide +kernel, by decide +kernel⟩
theorem ok_lbehind (T : Tx w K mg) : Ok P w K mg base 3 (He.ga K "_law_behind") ["_law_one", "_law_other", "_law_told", "_law_roads", "_law_ways_here"] (spLbehind K) := by
  obtain ⟨fdD, GD, kD, bD⟩ := ok_ldriven (P := P) (base := base) T
  obtain ⟨fdR, GR, kR, bR⟩ := ok_rway (P := P) (base := base) T
  refine ok_of T.d_lbehind sc_lbehind (fun vs H Q E h => ?_) (fun _ _ _ _ _ _ us hl => match us, hl with | [_, _, _, _, _], _ => rfl) (fun cdv A outer s H vs Q E hr h => ?_)
  · obtain ⟨a, c, d, rp, b, t, u, ps, ws, hh, ts, rs, F, rfl, _⟩ := h
    rfl
  · obtain ⟨a, c, d, rp, b, t, u, ps, ws, hh, ts, rs, F, rfl, ha, hc, TD, R, M, hb, fewW, nd, ok, few, ht, hu1, hlk, k⟩ := h
    have hu := hu_of hr
    refine ⟨_, pss_cons (ps_set (i := 5) sc_lbehind.nd rfl (Or.inr rfl) (pe_dget hu (pv 2) (pe_ix ix_tup (pv 0) pe_int (fun _ _ => rfl)) (fun _ _ => rfl)))
      (pss_cons (ps_if (PW.pt (pw_or (pt_cmpR op_eq (pe_ix ix_tup (pv 0) pe_int (fun _ _ => rfl)) (pe_ix ix_tup (pv 1) pe_int (fun _ _ => rfl)) (nomark _))
          (pw_or (pt_cmpR op_in_seq (pe_ix ix_tup (pv 0) pe_int (fun _ _ => rfl)) (pe_dget hu (pv 2) (pe_ix ix_tup (pv 1) pe_int (fun _ _ => rfl)) (fun _ _ => rfl)) (by rfl))
          (pw_or1 (pt_cmpR op_ge (pe_ix ix_tup (pv 0) pe_int (fun _ _ => rfl)) (pe_ix ix_tup (pv 1) pe_int (fun _ _ => rfl)) (nomark _))))))
        (pss_one (ps_ret pe_bl)) pss_nil)
      (pss_cons (ps_set (i := 6) sc_lbehind.nd rfl (Or.inl rfl) (pe_call GD (hr.mono (by decide)) rfl T.g__law_driven kD bD .nil pass0
          (pa_cons (pe_meth (pv 3) T.c_Roads T.m_Roads_way GR hr bR .nil pass0 (pa_cons (pe_ix ix_tup (pv 0) pe_int (fun _ _ => rfl)) (pa_cons (pe_ix ix_tup (pv 1) pe_int (fun _ _ => rfl)) pa_nil)))
          (pa_cons (pe_ix ix_tup (pv 0) pe_int (fun _ _ => rfl)) (pa_cons (pe_ix ix_tup (pv 1) pe_int (fun _ _ => rfl)) (pa_cons (pv 4) pa_nil))))))
      (pss_cons (ps_if (PW.pt (pw_or (pt_cmpR op_isN (pv 6) pe_non (nomark _)) (pw_or1 (pt_cmpR op_gt (pe_op op_add (pe_ix ix_tup (pv 0) pe_int (fun _ _ => rfl)) (pv 6)) (pe_ix ix_tup (pv 1) pe_int (fun _ _ => rfl)) (nomark _)))))
        (pss_one (ps_ret pe_bl)) pss_nil)
      (pss_one (ps_ret (pe_callB (cr_all rfl) (by rfl) T.n_all (by decide +kernel) (pa_cons (pe_lc (own := [("_law_name", 7)]) (g := gName 7) rfl sc_lbehind.nd (pi_list (pe_dget hu (pv 2) (pe_ix ix_tup (pv 1) pe_int (fun _ _ => rfl)) (fun _ _ => rfl))) (blkOk_by (N := nB) (sc := defScope st_lbehind) (by decide +kernel)) (fun _ _ _ _ _ => pg_name (i := 7) sc_lbehind.nd rfl (Or.inl rfl))
            (fun _ _ _ _ _ => pts_nil) (fun _ _ _ _ _ => pe_cmpR (r := rIn K false) op_in_seq (pv 7) (pv 5) (by rfl))) pa_nil))))))), ?_⟩
    obtain ⟨ra, hra, hla⟩ := TD.get nd ht
    obtain ⟨rc, hrc, hlc⟩ := TD.get nd hu1
    have S := fun x hx => (R.hs x hx).1
    have lt := link_lt M S (ok t ht) hlk
    obtain ⟨m, hm, le⟩ := linkB_iff.mp hlk
    have R' := R
    obtain ⟨⟨dx, t1, l1, r1, kvs1, hrp, _⟩, _⟩ := R'
    generalize hys : rs.map (·.1) = ys at hla hlc
    have pm := TD.pm
    rw [hys] at pm
    refine ⟨_, rfl, _, rfl, a, tV t, 0, .str t.nm, rfl, rfl, SqT.of ha, rfl, d, _, rfl, (by rw [← hra]; exact DGet.k (k := Sum.inr t.nm) TD.at_), ?_⟩
    refine ⟨_, rfl, a, tV t, 0, .str t.nm, rfl, rfl, SqT.of ha, rfl, _, rfl, c, tV u, 0, .str u.nm, rfl, rfl, SqT.of hc, rfl, rfl, _, rfl, ?_⟩
    rw [decide_eq_false (show ¬ V.str t.nm = V.str u.nm by
      intro e
      injection e with e
      have e1 := tripOf_eq nd ht
      rw [e, tripOf_eq nd hu1] at e1
      rw [Option.some.inj e1] at lt
      omega)]
    refine iteF ?_
    refine ⟨_, rfl, a, tV t, 0, .str t.nm, rfl, rfl, SqT.of ha, rfl, _, rfl, _, rfl, c, tV u, 0, .str u.nm, rfl, rfl, SqT.of hc, rfl, d, _, rfl, (by rw [← hrc]; exact DGet.k (k := Sum.inr u.nm) TD.at_), rc, _, rfl, .inl (SqL.of hlc), rfl, flat_sV _, _, rfl, ?_⟩
    show if inV (.str t.nm) (sV (ys.filter (lkN hh ts u.nm))) = true then _ else _
    rw [inV_s, decide_eq_false (show ¬ t.nm ∈ ys.filter (lkN hh ts u.nm) by
      rw [row_mem nd pm hu1 ht]
      intro e
      have := link_lt M S (ok u hu1) e
      omega)]
    refine iteF ?_
    refine ⟨_, rfl, a, tV t, 3, .int t.st, rfl, rfl, SqT.of ha, rfl, _, rfl, c, tV u, 3, .int u.st, rfl, rfl, SqT.of hc, rfl, _, _, rfl, rfl, _, rfl, ?_⟩
    show if decide (u.st ≤ t.st) = true then _ else _
    rw [decide_eq_false (show ¬ u.st ≤ t.st by omega)]
    refine iteF ?_
    -- the way that is driven
    have O1 := ok t ht
    have O2 := ok u hu1
    refine ⟨_, rfl, rp, dx, _, rfl, hrp, rF_no t1 l1 r1 (by decide +kernel) (by decide +kernel) (by decide +kernel), _, rfl, a, tV t, 2, .str t.g, rfl, rfl, SqT.of ha, rfl, _, rfl, c, tV u, 1, .str u.o, rfl, rfl, SqT.of hc, rfl,
      rp, t.g, u.o, ps, ws, hh, m, F, rfl, R, M, O1.g, O2.o, hm, fun H1 l r s1 l0 hl path len => ?_⟩
    have few12 := M.few
    refine ⟨_, rfl, a, tV t, 2, .str t.g, rfl, rfl, SqT.of (s1 _ _ ha), rfl, _, rfl, c, tV u, 1, .str u.o, rfl, rfl, SqT.of (s1 _ _ hc), rfl, _, rfl,
      l, b, t.g, u.o, r, ws, lk (hh t.g), m, rfl, hl, fun y hy => M.ok y (path.mem M.on O2.o y hy), path, (S _ O1.g).o0, hm, hb.mono s1, by omega, fewW, fun H2 mm s2 le2 => ?_⟩
    have s12 := s1.trans s2
    refine ⟨_, rfl, rfl, _, rfl, ?_⟩
    refine iteF ?_
    refine ⟨_, rfl, a, tV t, 4, .int t.fi, rfl, rfl, SqT.of (s12 _ _ ha), rfl, _, rfl, _, _, rfl, rfl, _, rfl, c, tV u, 3, .int u.st, rfl, rfl, SqT.of (s12 _ _ hc), rfl, _, _, rfl, rfl, _, rfl, ?_⟩
    show if decide (u.st < t.fi + mm) = true then _ else _
    rw [decide_eq_false (show ¬ u.st < t.fi + mm by omega)]
    refine iteF ?_
    -- the row
    have TD2 := TD.mono s12
    have hla2 := s12 _ _ hla
    have hlc2 := s12 _ _ hlc
    refine ⟨_, rfl, _, rfl, c, tV u, 0, .str u.nm, rfl, rfl, SqT.of (s12 _ _ hc), rfl, d, _, rfl, (by rw [← hrc]; exact DGet.k (k := Sum.inr u.nm) TD2.at_), rc, rfl, ⟨_, SqL.of hlc2⟩, fun D hD => ?_⟩
    have lenY : (ys.filter (lkN hh ts u.nm)).length ≤ 40 := by
      have h1 := List.length_filter_le (lkN hh ts u.nm) ys
      have h2 := pm.length_eq
      rw [List.length_map] at h2
      omega
    refine lc_list (K := K) (a := rc) (xs := sV (ys.filter (lkN hh ts u.nm))) (fun j H' => Same H2 H' ∧ H' D = some (.lst ((List.replicate j true).map V.bl))) ⟨same_new hD, upd_same⟩ (fun j H' _ q => SqL.of (q.1 _ _ hlc2)) ?_ ?_
    · rintro j x H3 hj ⟨s3, h3⟩
      obtain ⟨y, hy, rfl, hym⟩ := sV_at hj
      have hjl := (List.getElem?_eq_some_iff.mp hy).1
      have hys2 := List.mem_filter.mp hym
      obtain ⟨v, hv, rfl⟩ := List.mem_map.mp (pm.mem_iff.mp hys2.1)
      have l2 : linkB hh u v = true := (row_mem nd pm hu1 hv).mp hym
      have inR := (row_mem nd pm ht hv).mpr (link_trans S O1 O2 hlk l2)
      refine ⟨rfl, ?_⟩
      refine ⟨_, rfl, _, rfl, ra, _, rfl, .inl (SqL.of (s3 _ _ hla2)), rfl, flat_sV _, ?_⟩
      refine ⟨_, h3, ?_, same_mut s3 hD, ?_⟩
      · rw [List.length_map, List.length_replicate]
        exact small1000 (by omega)
      · rw [upd_same, List.replicate_succ', List.map_append]
        show some (HO.lst (_ ++ [V.bl (inV (.str v.nm) (sV (ys.filter (lkN hh ts t.nm))))])) = _
        rw [inV_s, decide_eq_true inR]
        rfl
    · rintro H3 ⟨s3, h3⟩
      refine ⟨D, _, rfl, SqL.of h3, ?_⟩
      have ea : (List.replicate (sV (ys.filter (lkN hh ts u.nm))).length true).all id = true := by simp
      rw [ea]
      exact k H3 (s12.trans s3)
end
end FP
/-! FSort -/
namespace FP
open PySem PySem.Spec PyProof.Rows L2 FM
abbrev leS (a b : Str) : Prop := a.cps.toList ≤ b.cps.toList
theorem leS_anti {a b : Str} (h1 : leS a b) (h2 : leS b a) : a = b := by
  have e : a.cps.toList = b.cps.toList := List.le_antisymm h1 h2
  cases a with
  | mk ac =>
    cases b with
    | mk bc =>
      have : ac = bc := by
        have e : ac.toList = bc.toList := e
        rw [← Array.toArray_toList (xs := ac), e]
      rw [this]
theorem rising_pair : ∀ (x : Str) (r : List Str), risingS x r = true → (x :: r).Pairwise leS
  | x, [], _ => List.pairwise_singleton ..
  | x, y :: r, h => by
    have h : (!ltCps y.cps.toList x.cps.toList && risingS y r) = true := h
    rw [Bool.and_eq_true] at h
    have ih := rising_pair y r h.2
    have hxy : leS x y := by
      have h1 := h.1
      rw [ltCps_eq] at h1
      have : ¬ (y.cps.toList < x.cps.toList) := by simpa using h1
      exact this
    refine List.pairwise_cons.mpr ⟨fun z hz => ?_, ih⟩
    rcases List.mem_cons.mp hz with rfl | hz
    · exact hxy
    · exact List.le_trans hxy (List.rel_of_pairwise_cons ih hz)
theorem sorted_pair {l : List Str} (h : sortedS l = true) : l.Pairwise leS := by
  cases l with
  | nil => exact List.Pairwise.nil
  | cons x r => exact rising_pair x r h
theorem pair_unique : ∀ {l k : List Str}, l.Pairwise leS → k.Pairwise leS → l.Perm k → l = k
  | [], k, _, _, p => (List.Perm.nil_eq p)
  | x :: l, [], _, _, p => by
    have := p.length_eq
    cases this
  | x :: l, y :: k, hl, hk, p => by
    have e : x = y := by
      have hx : x ∈ y :: k := p.mem_iff.mp List.mem_cons_self
      have hy : y ∈ x :: l := p.mem_iff.mpr List.mem_cons_self
      rcases List.mem_cons.mp hx with h | h
      · exact h
      · rcases List.mem_cons.mp hy with h2 | h2
        · exact h2.symm
        · exact leS_anti (List.rel_of_pairwise_cons hl h2) (List.rel_of_pairwise_cons hk h)
    subst e
    rw [pair_unique (List.pairwise_cons.mp hl).2 (List.pairwise_cons.mp hk).2 (List.Perm.cons_inv p)]
theorem sorted_unique {l k : List Str} (hl : sortedS l = true) (hk : sortedS k = true) (p : l.Perm k) : l = k := pair_unique (sorted_pair hl) (sorted_pair hk) p
end FP
/-! FZ -/
namespace FP
open PySem PySem.Spec PyProof.Rows L2 FM
theorem fnOk_of {P : Program} {w : World} {K : PySem.W.Frag} {mg : Str → Option Value} {base : Heap} {x qual : Str} {st : Stmt} {f : Addr} {N ps : List Str} {k : Nat} {sp : Sp} {fd : FuncData}
    (F : FunD K x qual (defArgs st) (defBody st) (defScope st) [] [] f fd) (S : FnScope N ps (defScope st)) (len : ∀ vs H Q E, sp vs H Q E → vs.length = ps.length)
    (hbody : ∀ (cdv : Value) (A : Around) (outer : List Env) (s : Shared) (H : Hp) (vs : List V) (Q : VK) (E : XK), Room k (A.deeper (envOfC qual (defScope st) s.heap.objs.size f cdv)) → sp vs H Q E →
      ∃ t, PSs (cxOf CX0 P w K mg base N qual (defScope st) f cdv A outer s H E).nox (defBody st) t ∧ t { nx := fun _ H' => Q .non H', rt := Q } (start N vs) H) : FnOk P w K mg base CX0 (k + 1) f fd ps sp := by
  refine F.ok S len fun cdv A outer s H vs Q E hr hsp => ?_
  obtain ⟨t, ht, q⟩ := hbody cdv A outer s H vs Q E hr hsp
  exact ⟨t, PSs.nox ht, q⟩
section
variable {P : Program} {w : World} {K : PySem.W.Frag} {mg : Str → Option Value} {base : Heap}
abbrev nW : List Str := ["_law_script", "_law_places", "_law_ways_here", "_law_many", "_law_names_here", "_law_trips_here", "_law_roads", "_law_told", "_law_row", "_law_one", "_law_heights", "_law_other"]
def spLaw (K : PySem.W.Frag) : Sp := fun vs H Q _ => ∃ (a : Addr) (ns : List Int), vs = [.ref a] ∧ SqL K H a (ns.map V.int) ∧ ns.length ≤ 63 ∧ H (cN K).2 = some (.tbl #[]) ∧ ∀ H', Q (.bl true) H'
theorem sc_llaw : FnScope nW ["_law_script"] (defScope st_llaw) := ⟨rfl, rfl, rfl, by decide +kernel, rfl, by decide +kernel, by decide +kernel⟩
theorem ok_llaw (T : Tx w K mg) (TB : LamX.TabB base mg (cN K).1 (cN K).2) {fd : FuncData} (F : FunD K "law" "law" (defArgs st_llaw) (defBody st_llaw) (defScope st_llaw) [] [] (He.ga K "law") fd) : FnOk P w K mg base CX0 5 (He.ga K "law") fd ["_law_script"] (spLaw K) := by
  obtain ⟨fdM, GM, kM, bM⟩ := ok_lmix (P := P) (base := base) T
  obtain ⟨fdN, GN, kN, bN⟩ := ok_lnames (P := P) (base := base) T
  obtain ⟨fdW, GW, kW, bW⟩ := ok_lways (P := P) (base := base) T
  obtain ⟨fdL, GL, kL, bL⟩ := ok_llens (P := P) (base := base) T
  obtain ⟨fdT, GT, kT, bT⟩ := ok_ltrips (P := P) (base := base) T
  obtain ⟨fdI, GI, kI, bI⟩ := ok_rinit (P := P) (base := base) T
  obtain ⟨fdJ, GJ, kJ, bJ⟩ := ok_tinit (P := P) (base := base) T
  obtain ⟨fdK, GK, kK, bK⟩ := ok_links (P := P) (base := base) T TB
  obtain ⟨fdH, GH, kH, bH⟩ := ok_rheights (P := P) (base := base) T
  obtain ⟨fdP, GP, kP, bP⟩ := ok_lpaper (P := P) (base := base) T
  obtain ⟨fdB, GB, kB, bB⟩ := ok_lbehind (P := P) (base := base) T
  refine fnOk_of F sc_llaw (fun vs H Q E h => ?_) (fun cdv A outer s H vs Q E hr h => ?_)
  · obtain ⟨a, ns, rfl, _⟩ := h
    rfl
  · obtain ⟨a, ns, rfl, ha, hz, htab, k⟩ := h
    have hu := hu_of hr
    refine ⟨_, pss_cons (ps_set (i := 1) sc_llaw.nd rfl (Or.inl rfl) (pe_call GN (hr.mono (by decide)) rfl T.g__law_names kN bN .nil pass0 (pa_cons (pv 0) (pa_cons pe_int (pa_cons (pe_op op_add pe_int (pe_op op_mod (pe_call GM (hr.mono (by decide)) rfl T.g__law_mix kM bM .nil pass0 (pa_cons (pv 0) (pa_cons pe_int (pa_cons pe_int pa_nil)))) pe_int)) pa_nil)))))
      (pss_cons (ps_set (i := 2) sc_llaw.nd rfl (Or.inl rfl) (pe_call GW (hr.mono (by decide)) rfl T.g__law_ways kW bW .nil pass0 (pa_cons (pv 0) (pa_cons pe_int (pa_cons (pv 1) pa_nil)))))
      (pss_cons (ps_set (i := 3) sc_llaw.nd rfl (Or.inl rfl) (pe_callB (call_max2 rfl) (by rfl) T.n_max (by decide +kernel) (pa_cons (pe_op op_add pe_int (pe_op op_mod (pe_call GM (hr.mono (by decide)) rfl T.g__law_mix kM bM .nil pass0 (pa_cons (pv 0) (pa_cons pe_int (pa_cons pe_int pa_nil)))) pe_int))
        (pa_cons (pe_op op_fdiv (pe_op op_sub (pe_callB (call_min2 rfl) (by rfl) T.n_min (by decide +kernel) (pa_cons (pe_callB call_len_seq (by rfl) T.n_len PySem.boot_len (pa_cons (pv 0) pa_nil)) (pa_cons pe_int pa_nil))) pe_int) pe_int) pa_nil))))
      (pss_cons (ps_set (i := 4) sc_llaw.nd rfl (Or.inl rfl) (pe_call GN (hr.mono (by decide)) rfl T.g__law_names kN bN .nil pass0 (pa_cons (pv 0) (pa_cons pe_int (pa_cons (pv 3) pa_nil)))))
      (pss_cons (ps_set (i := 5) sc_llaw.nd rfl (Or.inl rfl) (pe_call GT (hr.mono (by decide)) rfl T.g__law_trips kT bT .nil pass0 (pa_cons (pv 0) (pa_cons pe_int (pa_cons (pv 4) (pa_cons (pv 1) (pa_cons (pe_call GL (hr.mono (by decide)) rfl T.g__law_lengths kL bL .nil pass0 (pa_cons (pv 1) (pa_cons (pv 2) pa_nil))) pa_nil)))))))
      (pss_cons (ps_set (i := 6) sc_llaw.nd rfl (Or.inl rfl) (pe_make T.k_Roads GI hr rfl T.g_Roads bI .nil pass0 (pa_cons (pe_callTy call_list_of (by rfl) T.n_list (by decide +kernel) (pa_cons (pv 1) pa_nil)) (pa_cons (pe_callTy call_list_of (by rfl) T.n_list (by decide +kernel) (pa_cons (pv 2) pa_nil)) pa_nil))))
      (pss_cons (ps_set (i := 7) sc_llaw.nd rfl (Or.inl rfl) (pe_call GK hr rfl T.g_links kK bK .nil pass0 (pa_cons (pe_make T.k_Table GJ hr rfl T.g_Table bJ .nil pass0 (pa_cons (pv 6) (pa_cons (pe_callTy call_list_of (by rfl) T.n_list (by decide +kernel) (pa_cons (pv 5) pa_nil)) pa_nil))) pa_nil)))
      (pss_cons (ps_if (PW.pt (pw_or (pt_not (pt_val (pe_callB call_isi (by rfl) T.n_isinstance (by decide +kernel) (pa_cons (pv 7) (pa_cons (pe_bltn (v := .ty "dict") rfl T.n_dict (by decide +kernel) rfl) pa_nil)))))
          (pw_or1 (pt_cmpR (op_neD hr.units) (pe_callB (call_sortedD rfl) (by rfl) T.n_sorted (by decide +kernel) (pa_cons (pv 7) pa_nil)) (pe_callB cr_sortedS (by rfl) T.n_sorted (by decide +kernel) (pa_cons (pv 4) pa_nil)) (nomark _)))))
        (pss_one (ps_ret pe_bl)) pss_nil)
      (pss_cons (ps_if (pt_not (pt_val (pe_callB (cr_all rfl) (by rfl) T.n_all (by decide +kernel) (pa_cons (pe_lock (pe_lc (own := [("_law_row", 8)]) (g := gName 8) rfl sc_llaw.nd (pi_values (pv 7)) (blkOk_by (N := nW) (sc := defScope st_llaw) (by decide +kernel)) (fun _ _ _ _ _ => pg_name (i := 8) sc_llaw.nd rfl (Or.inl rfl))
            (fun _ _ _ _ _ => pts_nil) (fun _ _ _ _ _ => pe_callB (r := rIsi K) call_isi (by rfl) T.n_isinstance (by decide +kernel) (pa_cons (pv 8) (pa_cons (pe_bltn (v := .ty "list") rfl T.n_list (by decide +kernel) rfl) pa_nil))))) pa_nil))))
        (pss_one (ps_ret pe_bl)) pss_nil)
      (pss_cons (ps_for PassesOwn.never rfl (pi_list (pv 5)) (pg_name (i := 9) sc_llaw.nd rfl (Or.inl rfl))
        (pss_cons (ps_set (i := 10) sc_llaw.nd rfl (Or.inl rfl) (pe_meth (pv 6) T.c_Roads T.m_Roads_heights GH (hr.mono (by decide)) bH .nil pass0 (pa_cons (pe_ix ix_tup (pv 9) pe_int (fun _ _ => rfl)) pa_nil)))
        (pss_cons (ps_set (i := 8) sc_llaw.nd rfl (Or.inl rfl) (pe_dget hu (pv 7) (pe_ix ix_tup (pv 9) pe_int (fun _ _ => rfl)) (fun _ _ => rfl)))
        (pss_cons (ps_if (PW.pt (pw_or (pt_not (pt_val (pe_call GP (hr.mono (by decide)) rfl T.g__law_paper kP bP .nil pass0 (pa_cons (pv 10) (pa_cons (pe_ix ix_tup (pv 9) pe_int (fun _ _ => rfl)) (pa_cons (pv 2) pa_nil))))))
            (pw_or1 (pt_cmpR op_ne (FL.pe_lenSetS rfl (by rfl) T.n_len (by rfl) T.n_set (pv 8)) (pe_callB call_len_seq (by rfl) T.n_len PySem.boot_len (pa_cons (pv 8) pa_nil)) (nomark _)))))
          (pss_one (ps_ret pe_bl)) pss_nil)
        (pss_one (ps_for PassesOwn.never rfl (pi_list (pv 5)) (pg_name (i := 11) sc_llaw.nd rfl (Or.inl rfl))
          (pss_one (ps_if (pt_cmpR op_in_seq (pe_ix ix_tup (pv 11) pe_int (fun _ _ => rfl)) (pv 8) (by rfl))
            (pss_one (ps_if (pt_not (pt_val (pe_call GB (hr.mono (by decide)) rfl T.g__law_behind kB bB .nil pass0 (pa_cons (pv 9) (pa_cons (pv 11) (pa_cons (pv 7) (pa_cons (pv 6) (pa_cons (pv 2) pa_nil)))))))) (pss_one (ps_ret pe_bl)) pss_nil))
            (pss_one (ps_if (PW.pt (pw_and (pt_cmp (pc_din hu (pe_ix ix_tup (pv 11) pe_int (fun _ _ => rfl)) (pv 10))) (pw_and1 (pt_cmpR op_le (pe_op op_add (pe_ix ix_tup (pv 9) pe_int (fun _ _ => rfl)) (pe_dget hu (pv 10) (pe_ix ix_tup (pv 11) pe_int (fun _ _ => rfl)) (fun _ _ => rfl))) (pe_ix ix_tup (pv 11) pe_int (fun _ _ => rfl)) (nomark _)))))
              (pss_one (ps_ret pe_bl)) pss_nil))))))))))
      (pss_one (ps_ret pe_bl))))))))))), ?_⟩
    -- the places
    have m0 := Int.emod_nonneg (mixAt ns 2 65449) (show (4 : Int) ≠ 0 by decide)
    have m1 := Int.emod_lt_of_pos (mixAt ns 2 65449) (show (0 : Int) < 4 by decide)
    obtain ⟨mp, emp⟩ : ∃ mp : Nat, (mp : Int) = 2 + mixAt ns 2 65449 % 4 := ⟨(2 + mixAt ns 2 65449 % 4).toNat, by omega⟩
    refine ⟨_, rfl, _, rfl, a, ns, 2, 65449, rfl, ha, by decide, _, _, rfl, rfl, (by show (0 : Int) < 4; decide), _, _, rfl, rfl, a, ns, 0, mp, (by rw [emp]; rfl), ha, by omega, fun H1 pl ps s1 pl0 hpl1 ndP okP lenP => ?_⟩
    -- the ways
    refine ⟨_, rfl, _, rfl, a, pl, ns, 3, ps, rfl, s1.seq ha, hpl1, by omega, by omega, fun H2 b ws s2 b0 hb2 lenW goodW => ?_⟩
    have s12 := s1.trans s2
    -- how many trips
    have n0 := Int.emod_nonneg (mixAt ns 11 65521) (show (4 : Int) ≠ 0 by decide)
    have n1 := Int.emod_lt_of_pos (mixAt ns 11 65521) (show (0 : Int) < 4 by decide)
    refine ⟨_, rfl, a, ns, 11, 65521, rfl, s12.seq ha, by decide, _, _, rfl, rfl, (by show (0 : Int) < 4; decide), _, _, rfl, rfl, ?_⟩
    obtain ⟨my, emy, my2, my16⟩ : ∃ my : Nat, (my : Int) = (if ((if (61 : Int) < ((ns.map V.int).length : Int) then (61 : Int) else ((ns.map V.int).length : Int)) - 11) / 3 > 2 + mixAt ns 11 65521 % 4 then ((if (61 : Int) < ((ns.map V.int).length : Int) then (61 : Int) else ((ns.map V.int).length : Int)) - 11) / 3 else 2 + mixAt ns 11 65521 % 4) ∧ 2 ≤ my ∧ my ≤ 16 := by
      have hb : ∃ z : Int, z = ((if (61 : Int) < ((ns.map V.int).length : Int) then (61 : Int) else ((ns.map V.int).length : Int)) - 11) / 3 ∧ z ≤ 16 := by
        refine ⟨_, rfl, ?_⟩
        split <;> omega
      obtain ⟨z, ez, hz16⟩ := hb
      rw [← ez]
      by_cases c : z > 2 + mixAt ns 11 65521 % 4
      · rw [if_pos c]
        exact ⟨z.toNat, by omega, by omega, by omega⟩
      · rw [if_neg c]
        exact ⟨(2 + mixAt ns 11 65521 % 4).toNat, by omega, by omega, by omega⟩
    refine ⟨_, rfl, a, _, rfl, .inl (s12.seq ha), _, _, rfl, _, _, rfl, rfl, _, _, rfl, rfl, ⟨by decide, by decide⟩, _, _, rfl, ?_⟩
    rw [← emy]
    -- the names
    refine ⟨_, rfl, _, rfl, a, ns, 11, my, rfl, s12.seq ha, my16, fun H3 nl xs s3 nl0 hnl ndX okX lenX => ?_⟩
    have s13 := s12.trans s3
    have LO := lens_ok (ps := ps) (ws := ws) (F := FAR) (n := 4) (fun e he => (goodW e he).1) (fun e he => (goodW e he).2) (by decide) (by omega)
    -- the trips
    refine ⟨_, rfl, _, rfl, _, rfl, _, rfl, _, rfl, pl, b, ps, ws, rfl, (s2.trans s3) _ _ hpl1, hb2.mono s3, by omega, lenW, fun H4 dl kvs s4 dl0 hdl kd => ?_⟩
    have s14 := s13.trans s4
    refine ⟨a, nl, pl, dl, ns, 13, xs, ps, lens ps ws, kvs, rfl, s14.seq ha, s4 _ _ hnl, by omega, ((s2.trans s3).trans s4) _ _ hpl1, by omega, hdl, kd, LO.line, fun x y v h => ?_, fun H5 tl ts s5 htl emT goodT => ?_⟩
    · have := LO.top x y v h
      unfold FAR at this ⊢
      omega
    have s15 := s14.trans s5
    have hpl5 := (((s2.trans s3).trans s4).trans s5) _ _ hpl1
    have hb5 := hb2.mono ((s3.trans s4).trans s5)
    have hnl5 := (s4.trans s5) _ _ hnl
    have htab5 := s15 _ _ htab
    have M : Mapd ps ws FAR := ⟨ndP, okP, by omega, by omega, fun e he => (goodW e he).1, fun e he => (goodW e he).2, by decide, by decide⟩
    clear s1 s2 s3 s4 s5 s12 s13 s14 hpl1 hb2 hnl ha htab kd hdl dl0
    -- the roads
    obtain ⟨wp, hb51, hb52⟩ := id hb5
    refine ⟨_, rfl, pl, _, rfl, .inl (SqL.of hpl5), fun p1 hp1 => ?_⟩
    have s6 := same_new (o := .lst (sV ps)) hp1
    have hp6 : (upd H5 p1 (.lst (sV ps))) p1 = some (.lst (sV ps)) := upd_same
    revert s6 hp6
    generalize upd H5 p1 (.lst (sV ps)) = H6
    intro s6 hp6
    refine ⟨_, rfl, b, _, rfl, .inl (SqL.of (s6 _ _ hb51)), fun b1 hb1 => ?_⟩
    have s7 := same_new (o := .lst (wp.map V.ref)) hb1
    have hb7 : (upd H6 b1 (.lst (wp.map V.ref))) b1 = some (.lst (wp.map V.ref)) := upd_same
    revert s7 hb7
    generalize upd H6 b1 (.lst (wp.map V.ref)) = H7
    intro s7 hb7
    intro x dx hx hdx ne
    refine ⟨H7, x, dx, p1, b1, ps, ws, FAR, rfl, same_mut (same_new hdx) hx, hx, upd_same, s7 _ _ hp6, ⟨wp, hb7, hb52.mono (s6.trans s7)⟩, M, fun H8 hh s8 R => ⟨rfl, ?_⟩⟩
    have s58 := (s6.trans s7).trans s8
    have S := fun x hx => (R.hs x hx).1
    have okT : ∀ t ∈ ts, TrOk ps hh t := fun t ht => by
      obtain ⟨g1, g2, g3, g4, g5, g6, l, hl, le⟩ := goodT t ht
      obtain ⟨v, hv, lev⟩ := (S t.o g1).least (LO.real _ _ _ hl)
      exact ⟨okX _ (by rw [← emT]; exact List.mem_map.mpr ⟨t, ht, rfl⟩), g1, g2, g3, g4, g5, g6, v, hv, by omega⟩
    have lenT : ts.length = my := by
      have := congrArg List.length emT
      rw [List.length_map] at this
      omega
    -- the table
    obtain ⟨tp, htl1, htl2⟩ := id (htl.mono s58)
    refine ⟨_, rfl, _, rfl, tl, _, rfl, .inl (SqL.of htl1), fun t1 ht1 => ?_⟩
    have s9 := same_new (o := .lst (tp.map V.ref)) ht1
    have ht9 : (upd H8 t1 (.lst (tp.map V.ref))) t1 = some (.lst (tp.map V.ref)) := upd_same
    revert s9 ht9
    generalize upd H8 t1 (.lst (tp.map V.ref)) = H9
    intro s9 ht9
    intro x2 dx2 hx2 hdx2 ne2
    refine ⟨H9, x2, dx2, x, t1, ps, ws, hh, ts, rfl, same_mut (same_new hdx2) hx2, hx2, upd_same, R.mono s9, ⟨tp, ht9, htl2.mono s9⟩, by rw [emT]; exact ndX, okT, by omega, fun H10 s10 TT => ⟨rfl, ?_⟩⟩
    have s5A := (s58.trans s9).trans s10
    -- the links
    refine ⟨x2, ps, ws, hh, ts, rfl, TT, LamX.TabS.nil (s5A _ _ htab5), fun H11 d rs ys eN hd ers pm rows => ?_⟩
    have R11 := (R.mono (s9.trans s10)).monoN eN
    have b11 := (hb5.mono s5A).monoN eN
    have t11 := (htl.mono s5A).monoN eN
    have n11 := extN_l eN (s5A _ _ hnl5)
    have TD : Told H11 d hh ts rs := ⟨hd, by rw [ers]; exact pm, by rw [ers]; exact rows⟩
    have ndT : (ts.map (·.nm)).Nodup := by rw [emT]; exact ndX
    have lenY : ys.length = my := by
      have := pm.length_eq
      rw [List.length_map] at this
      omega
    clear s6 s7 s8 s9 s10 s5A s58 R hb5 htl hnl5 htab5 TT eN hb51 hb52 htl1 htl2 ht9 hb7 hp6 hx hdx hx2 hdx2 hpl5 hp1 hb1 ht1 rows
    refine ⟨_, rfl, _, _, _, _, true, rfl, .ty "dict", .base (.dK hd), kit_ty (by decide +kernel), _, rfl, ?_⟩
    refine iteF ?_
    refine ⟨_, rfl, d, rowD rs, ys, rfl, .inl hd, ?_, by omega, fun z1 q1 pz1 sz1 hq1 => ?_⟩
    · unfold rowD
      rw [← ers, List.map_map, List.map_map]
      rfl
    have s1 := same_new (o := .lst (z1.map V.str)) hq1
    refine ⟨_, rfl, nl, xs, rfl, SqL.of (s1 _ _ n11), by omega, fun z2 q2 pz2 sz2 hq2 => ?_⟩
    have s2 := same_new (o := .lst (z2.map V.str)) hq2
    have ez : z1 = z2 := sorted_unique sz1 sz2 (pz1.trans (by rw [emT] at pm; exact pm.trans pz2.symm))
    have okZ : ∀ x ∈ z2, okName x := fun x hx => okX x (pz2.mem_iff.mp hx)
    subst ez
    refine ⟨_, _, .lst (SqL.of (s2 _ _ upd_same)) (dpS z1), .lst (SqL.of upd_same) (dpS z1), shapeS okZ, shapeS okZ, _, rfl, ?_⟩
    show if (!PyData.eqvAll (z1.map PyData.str) (z1.map PyData.str)) = true then _ else _
    rw [eqvS]
    refine iteF ?_
    have s12 := s1.trans s2
    revert s12
    generalize upd (upd H11 q1 (.lst (z1.map V.str))) q2 (.lst (z1.map V.str)) = H12
    intro s12
    have R12 := R11.mono s12
    have b12 := b11.mono s12
    have t12 := t11.mono s12
    have TD12 := TD.mono s12
    clear s1 s2 R11 b11 t11 TD hd n11 s12 hq1 hq2
    -- every row is a list
    have hd12 := TD12.at_
    refine ⟨d, _, hd12, mutD, fun od => ?_⟩
    refine ⟨_, rfl, d, od, rowD rs, rfl, upd_same, fun D hD => ?_⟩
    have hin : ∀ r ∈ rs, (upd H12 d (.frz od (.dK (rowD rs)))) r.2 = some (.lst (sV ((rs.map (·.1)).filter (lkN hh ts r.1)))) := fun r hr => by
      have h := TD12.row r hr
      have ne : r.2 ≠ d := by
        intro e
        rw [e, hd12] at h
        cases h
      rw [upd_ne ne]
      exact h
    generalize hHl : upd H12 d (.frz od (.dK (rowD rs))) = Hl at hD hin
    have hl : Hl d = some (.frz od (.dK (rowD rs))) := by rw [← hHl]; exact upd_same
    have ndD : d ≠ D := ne_of_none hl hD
    have lenR : (rowD rs).length = my := by
      unfold rowD
      rw [List.length_map]
      have := congrArg List.length ers
      rw [List.length_map] at this
      omega
    refine lc_it (walk_values (d := d) (o := od) (kvs := rowD rs)) (fun j H' => Same Hl H' ∧ H' D = some (.lst ((List.replicate j true).map V.bl))) ⟨same_new hD, upd_same⟩ (fun j H' _ q => q.1 _ _ hl) ?_ ?_
    · rintro j y H3 H4 hj ⟨s3, h3⟩ ⟨rfl, key, hy⟩
      obtain ⟨r, hr, rfl⟩ : ∃ r ∈ rs, y = .ref r.2 := by
        unfold rowD at hy
        rw [List.getElem?_map] at hy
        cases e : rs[j]? with
        | none => rw [e] at hy; cases hy
        | some p => rw [e] at hy; exact ⟨p, List.mem_of_getElem? e, (Prod.mk.inj (Option.some.inj hy)).2.symm⟩
      refine ⟨rfl, ?_⟩
      refine ⟨_, rfl, _, _, _, _, true, rfl, .ty "list", .base (.lst (s3 _ _ (hin r hr))), kit_ty (by decide +kernel), ?_⟩
      refine ⟨_, h3, ?_, same_mut s3 hD, ?_⟩
      · rw [List.length_map, List.length_replicate]
        exact small1000 (by omega)
      · rw [upd_same, List.replicate_succ', List.map_append]
        rfl
    · rintro H3 ⟨s3, h3⟩
      refine ⟨s3 _ _ hl, ?_⟩
      have s13 : Same H12 (upd H3 d (.dK (rowD rs))) := same_unlock hd12 (by rw [hHl]; exact s3)
      have h13 : (upd H3 d (.dK (rowD rs))) D = some (.lst ((List.replicate (rowD rs).length true).map V.bl)) := by rw [upd_ne ndD.symm]; exact h3
      revert s13 h13
      generalize upd H3 d (.dK (rowD rs)) = H13
      intro s13 h13
      refine ⟨D, _, rfl, SqL.of h13, _, rfl, ?_⟩
      have ea : (List.replicate (rowD rs).length true).all id = true := by simp
      rw [ea]
      refine iteF ?_
      have R13 := R12.mono s13
      have b13 := b12.mono s13
      have t13 := t12.mono s13
      have TD13 := TD12.mono s13
      clear s13 h13 R12 b12 t12 TD12 hd12 hin hl hD hHl s3 h3 ndD
      obtain ⟨tp, htl1, htl2⟩ := id t13
      have ltp : (tp.map V.ref).length = ts.length := by rw [List.length_map]; exact htl2.1
      have R' := R13
      obtain ⟨⟨dxr, tr1, lr1, rr1, kvr1, hxr, _⟩, _⟩ := R'
      -- each trip
      refine ⟨_, rfl, tl, rfl, ⟨_, SqL.of htl1⟩, for_list (K := K) (a := tl) (xs := tp.map V.ref)
        (fun i σ H' => ∃ v8 v9 v10 v11, σ = [some (.ref a), some (.ref pl), some (.ref b), some (.int (my : Int)), some (.ref nl), some (.ref tl), some (.ref x), some (.ref d), v8, v9, v10, v11] ∧ Same H13 H')
        ⟨none, none, none, none, rfl, Same.refl _⟩ (fun i σ H' _ ⟨_, _, _, _, _, s⟩ => SqL.of (s _ _ htl1)) ?_ ?_⟩
      · rintro i y σ H14 hi ⟨v8, v9, v10, v11, rfl, s14⟩
        obtain ⟨q, t, rfl, hq, ht', ht, hT⟩ := htl2.at hi
        have O := okT t ht
        refine ⟨_, rfl, x, dxr, _, rfl, s14 _ _ hxr, rF_no tr1 lr1 rr1 (by decide +kernel) (by decide +kernel) (by decide +kernel), _, rfl, q, tV t, 2, .str t.g, rfl, rfl, SqT.of (s14 _ _ hT), rfl, x, t.g, ps, ws, hh, rfl, R13.mono s14, O.g, fun H15 dh s15 dh0 hdh => ?_⟩
        have s1 := s14.trans s15
        obtain ⟨r, hrv, hrl⟩ := (TD13.mono s1).get ndT ht
        refine ⟨_, rfl, _, rfl, q, tV t, 0, .str t.nm, rfl, rfl, SqT.of (s1 _ _ hT), rfl, d, _, rfl, (by rw [← hrv]; exact DGet.k (k := Sum.inr t.nm) (TD13.mono s1).at_), ?_⟩
        have hh900 := (R13.hs t.g O.g).2
        refine ⟨_, rfl, _, rfl, q, tV t, 2, .str t.g, rfl, rfl, SqT.of (s1 _ _ hT), rfl, _, rfl, dh, b, t.g, hh t.g, ws, rfl, hdh, S t.g O.g, b13.mono s1, by omega, fun H16 s16 => ?_⟩
        refine ⟨_, rfl, ?_⟩
        refine iteF ?_
        have s2 := s1.trans s16
        have hrl2 := s16 _ _ hrl
        have ndR : ((rs.map (·.1)).filter (lkN hh ts t.nm)).Nodup := by
          refine List.Nodup.sublist List.filter_sublist ?_
          rw [ers]
          exact (pm.nodup_iff).mpr ndT
        have lenRow : ((rs.map (·.1)).filter (lkN hh ts t.nm)).length ≤ 40 := by
          have h1 := List.length_filter_le (lkN hh ts t.nm) (rs.map (·.1))
          rw [ers] at h1 ⊢
          omega
        have memR : ∀ u ∈ ts, u.nm ∈ (rs.map (·.1)).filter (lkN hh ts t.nm) ↔ linkB hh t u = true := fun u hu1 => row_mem ndT TD13.pm ht hu1
        generalize hrow : (rs.map (·.1)).filter (lkN hh ts t.nm) = row at hrl2 ndR lenRow memR
        refine ⟨_, rfl, r, row, rfl, SqL.of hrl2, ndR, by omega, _, rfl, r, _, rfl, .inl (SqL.of hrl2), rfl, _, rfl, ?_⟩
        show if (!decide (V.int (row.length : Int) = V.int ((sV row).length : Int))) = true then _ else _
        rw [sV_len, decide_eq_true rfl]
        refine iteF ?_
        -- each other
        refine ⟨_, rfl, tl, rfl, ⟨_, SqL.of (s2 _ _ htl1)⟩, for_list (K := K) (a := tl) (xs := tp.map V.ref)
          (fun j σ H' => ∃ v11, σ = [some (.ref a), some (.ref pl), some (.ref b), some (.int (my : Int)), some (.ref nl), some (.ref tl), some (.ref x), some (.ref d), some (.ref r), some (.ref q), some (.ref dh), v11] ∧ Same H16 H')
          ⟨v11, rfl, Same.refl _⟩ (fun i σ H' _ ⟨_, _, s⟩ => SqL.of (s _ _ (s2 _ _ htl1))) ?_ ?_⟩
        · rintro j y σ H17 hj ⟨v11, rfl, s17⟩
          obtain ⟨q2, u, rfl, hq2, hu', hu1, hT2⟩ := htl2.at hj
          have s3 := s2.trans s17
          have hdh3 := s17 _ _ (s16 _ _ hdh)
          refine ⟨_, rfl, q2, tV u, 0, .str u.nm, rfl, rfl, SqT.of (s3 _ _ hT2), rfl, _, rfl, r, _, rfl, .inl (SqL.of (s17 _ _ hrl2)), rfl, flat_sV _, _, rfl, ?_⟩
          show if inV (.str u.nm) (sV row) = true then _ else _
          rw [inV_s]
          by_cases hlk : linkB hh t u = true
          · rw [decide_eq_true ((memR u hu1).mpr hlk)]
            refine iteT ?_
            refine ⟨_, rfl, _, rfl, _, rfl, _, rfl, _, rfl, q, q2, d, x, b, t, u, ps, ws, hh, ts, rs, FAR, rfl, s3 _ _ hT, s3 _ _ hT2, TD13.mono s3, R13.mono s3, M, b13.mono s3, by omega, ndT, okT, by omega, ht, hu1, hlk, fun H18 s18 => ?_⟩
            refine ⟨_, rfl, ?_⟩
            exact iteF ⟨_, rfl, s17.trans s18⟩
          · rw [decide_eq_false (fun z => hlk ((memR u hu1).mp z))]
            refine iteF ?_
            refine ⟨_, rfl, q2, tV u, 1, .str u.o, rfl, rfl, SqT.of (s3 _ _ hT2), rfl, _, rfl, dh, _, rfl, DGet.k (k := Sum.inr u.o) hdh3, _, rfl, ?_⟩
            rw [encH_val]
            cases e : lk (hh t.g) u.o with
            | none => exact iteF (iteF ⟨_, rfl, s17⟩)
            | some m =>
              refine iteT ?_
              have hv : valV (encH (hh t.g)) (Sum.inr u.o : Key) = some (.int m) := by rw [encH_val, e]; rfl
              refine ⟨_, rfl, q, tV t, 4, .int t.fi, rfl, rfl, SqT.of (s3 _ _ hT), rfl, _, rfl, _, rfl, q2, tV u, 1, .str u.o, rfl, rfl, SqT.of (s3 _ _ hT2), rfl, dh, _, rfl, (by rw [← hv]; exact DGet.k (k := Sum.inr u.o) hdh3), _, _, rfl, rfl, _, rfl, q2, tV u, 3, .int u.st, rfl, rfl, SqT.of (s3 _ _ hT2), rfl, _, _, rfl, rfl, _, rfl, ?_⟩
              show if decide (t.fi + m ≤ u.st) = true then _ else _
              rw [decide_eq_false (fun z => hlk (linkB_iff.mpr ⟨m, e, z⟩))]
              exact iteF ⟨_, rfl, s17⟩
        · rintro σ H17 ⟨v11, rfl, s17⟩
          exact ⟨_, _, _, _, rfl, s2.trans s17⟩
      · rintro σ H14 ⟨v8, v9, v10, v11, rfl, s14⟩
        exact k H14
end
end FP
/-! FEnd -/
namespace FP
open PySem PySem.Spec PyProof.Rows L2
theorem law_at (w : World) (mg : Str → Option Value) (fa0 : Addr) (h : Heap) (Y : hk.says w h) (G : h.Ns mainGlobals mg) (hmg : mg ("law" : Str) = some (.ref fa0)) :
    ∃ K : PySem.W.Frag, K.In h ∧ LamX.LawAtS PySem.Challenge.rw_fleetpath_k25_whole_links_go_on w K L2.CX0 5 63 "_law_script" mg fa0 h := by
  obtain ⟨K, X, c⟩ := Y
  have T : Tx w K mg := ⟨h, X, G, c⟩
  have e := hmg.symm.trans T.g_law
  cases e
  obtain ⟨fd, F⟩ := T.d_llaw
  have b := FunD.bindsA (ps := ["_law_script"]) F fun _ _ _ _ _ _ us hl => match us, hl with | [_], _ => rfl
  have mem : ∀ p ∈ [cN K], p = cN K := fun p hp => List.mem_singleton.mp hp
  have tfm : (("Table", some "names") : He.Defn) ∈ tf := List.mem_singleton.mpr rfl
  refine ⟨K, X, fd, [cN K], spLaw K, fun p hp => ?_, fun p hp => ?_, fun p hp => ?_, fun s u => b s [u] rfl, fun H a ns hl _ htab hS => ?_, fun base _ _ TB => ok_llaw T (TB _ (List.mem_singleton.mpr rfl)) F⟩
  · rw [mem p hp]; exact c.empty _ tfm
  · rw [mem p hp]; exact c.out _ tfm
  · rw [mem p hp]; exact PySem.W.codeHd_of_K X (c.hd _ tfm)
  · exact ⟨a, ns, rfl, hS, hl, htab _ (List.mem_singleton.mpr rfl), fun _ => rfl⟩
end FP
open PySem PySem.W PySem.Calls PyProof.Rows
theorem PySem.Challenge.cw_fleetpath_k25_whole_links_go_on_holds : PySem.Challenge.rw_fleetpath_k25_whole_links_go_on.Holds := by
  w_on; o_law
  refine HandSHeadRun.head_any (r := OpenLaw.row PySem.Challenge.rw_fleetpath_k25_whole_links_go_on) (q := view (OpenLaw.row PySem.Challenge.rw_fleetpath_k25_whole_links_go_on).prog [44]) (H := FP.hk) (ob := FP.ob) (M := 4000) (loose := FP.loose) (d := HandSHeadRun.topDef (OpenLaw.row PySem.Challenge.rw_fleetpath_k25_whole_links_go_on).prog 44) (kwd := []) FP.ob_eq
    (by kernel_rfl) (fun s => by kernel_rfl) FP.run (by kernel_rfl) (by kernel_rfl) (by kernel_rfl) (by rfl) (by first | assumption | decide +kernel) (by decide +kernel) ⟨rfl, rfl, rfl, rfl, rfl, by decide +kernel⟩ ?hw ?hc
  case hw => w_witness2
  case hc =>
    refine LamX.walk_ofTsE (l := PySem.Challenge.rw_fleetpath_k25_whole_links_go_on) (n := 63) (k := 5) (x := "_law_script") (CX := fun _ => L2.CX0) rfl (by decide) (by kernel_rfl) ⟨rfl, by decide, by decide⟩ ?F (fun _ _ _ _ _ z => z)
    intro w mg fa h Y G hmg0
    have hmg : mg ("law" : PySem.Str) = some (.ref fa) := by
      have e : (HandSHeadRun.topDef (OpenLaw.row PySem.Challenge.rw_fleetpath_k25_whole_links_go_on).prog 44).name = ("law" : PySem.Str) := by kernel_rfl
      rw [← e]
      exact hmg0
    exact FP.law_at w mg fa h Y G hmg
