import PyProof.Rows.All
import Wide.All
import OpenK.AllK
import Wide.FinOn
import HandS.Conv
import HandS.Deep
import HandS.DictComp
import HandS.Evl
import HandS.Flow
import HandS.ForMost
import HandS.IsInst
import HandS.Property
import HandS.SetKeys
import HandS.Small
import HandS.Style
import HandS.TupAny
import HandS.TupSets
import HandS.Walk
import HandS.Zip
import KE.DataCmp
import KE.GoesEnum
import KE.KSortTupG
import KE.KSortTupUse
import KE.SortData
import PySem.Challenge.RW_quietturns_k27_whole_each_link_has_one_s
set_option Elab.async false
set_option linter.all false
set_option maxRecDepth 100000
set_option maxHeartbeats 4000000
set_option autoImplicit false
namespace QM
section
variable {α : Type}

/-- a walk over edges (from, to, length) whose sources lie in S; its length, its number of edges -/
inductive Walk (E : List (α × α × Int)) (S : α → Prop) : α → α → Int → Nat → Prop
  | nil (d : α) : Walk E S d d 0 0
  | cons {u v d : α} {l n : Int} {k : Nat} : (u, v, l) ∈ E → S u → Walk E S v d n k → Walk E S u d (l + n) (k + 1)

def Pos (E : List (α × α × Int)) : Prop := ∀ u v l, (u, v, l) ∈ E → 1 ≤ l
abbrev Wk (E : List (α × α × Int)) (u d : α) (n : Int) : Prop := ∃ k, Walk E (fun _ => True) u d n k

theorem Walk.nonneg {E : List (α × α × Int)} {S : α → Prop} (hp : Pos E) {u d : α} {n : Int} {k : Nat} (h : Walk E S u d n k) : (k : Int) ≤ n := by
  induction h with
  | nil => exact Int.le_refl _
  | cons he _ _ ih => have := hp _ _ _ he; omega
theorem Walk.first {E : List (α × α × Int)} {S : α → Prop} {u d : α} {n : Int} {k : Nat} (h : Walk E S u d n k) : (u = d ∧ n = 0 ∧ k = 0) ∨ S u := by
  cases h with
  | nil => exact .inl ⟨rfl, rfl, rfl⟩
  | cons _ hs _ => exact .inr hs
/-- a walk's first edge -/
theorem Walk.inv {E : List (α × α × Int)} {S : α → Prop} {u d : α} {n : Int} {k : Nat} (h : Walk E S u d n k) : (u = d ∧ n = 0 ∧ k = 0) ∨ ∃ v l m j, (u, v, l) ∈ E ∧ S u ∧ Walk E S v d m j ∧ n = l + m ∧ k = j + 1 := by
  cases h with
  | nil => exact .inl ⟨rfl, rfl, rfl⟩
  | cons he hs ht => exact .inr ⟨_, _, _, _, he, hs, ht, rfl, rfl⟩
theorem Walk.weak {E E' : List (α × α × Int)} {S S' : α → Prop} (hS : ∀ x, S x → S' x) (hE : ∀ e, e ∈ E → e ∈ E') {u d : α} {n : Int} {k : Nat} (h : Walk E S u d n k) : Walk E' S' u d n k := by
  induction h with
  | nil => exact .nil _
  | cons he hs _ ih => exact .cons (hE _ he) (hS _ hs) ih
theorem Walk.app {E : List (α × α × Int)} {S : α → Prop} {u v d : α} {n m : Int} {k j : Nat} (h : Walk E S u v n k) (g : Walk E S v d m j) : Walk E S u d (n + m) (k + j) := by
  induction h with
  | nil => rw [Int.zero_add, Nat.zero_add]; exact g
  | @cons u v d' l n k he hs _ ih =>
    have := Walk.cons he hs (ih g)
    rw [Int.add_assoc, Nat.add_right_comm]
    exact this

/-- the distance, none without a walk -/
def IsD (E : List (α × α × Int)) (u d : α) : Option Int → Prop
  | none => ∀ n, ¬ Wk E u d n
  | some m => Wk E u d m ∧ ∀ n, Wk E u d n → m ≤ n

theorem IsD.uniq {E : List (α × α × Int)} {u d : α} {o o' : Option Int} (h : IsD E u d o) (h' : IsD E u d o') : o = o' := by
  cases o with
  | none => cases o' with
    | none => rfl
    | some m => exact absurd h'.1 (h m)
  | some m => cases o' with
    | none => exact absurd h.1 (h' m)
    | some m' =>
      have a := h.2 _ h'.1
      have b := h'.2 _ h.1
      have : m = m' := by omega
      rw [this]

theorem isD_ex {E : List (α × α × Int)} (hp : Pos E) (u d : α) : ∃ o, IsD E u d o := by
  rcases Classical.em (∃ n, Wk E u d n) with ⟨n, hn⟩ | h
  · have key : ∀ (b : Nat) (n : Int), n ≤ (b : Int) → Wk E u d n → ∃ o, IsD E u d o := by
      intro b
      induction b with
      | zero =>
        intro n hn hw
        refine ⟨some n, hw, fun m hm => ?_⟩
        obtain ⟨k, hk⟩ := hm
        have := hk.nonneg hp
        omega
      | succ b ih =>
        intro n hn hw
        rcases Classical.em (∃ m, m < n ∧ Wk E u d m) with ⟨m, hm, hw'⟩ | hno
        · exact ih m (by omega) hw'
        · refine ⟨some n, hw, fun m hm => ?_⟩
          rcases Int.lt_or_le m n with hlt | hle
          · exact absurd ⟨m, hlt, hm⟩ hno
          · exact hle
    exact key n.toNat n (by omega) hn
  · exact ⟨none, fun n hn => h ⟨n, hn⟩⟩

open Classical in
/-- the distance as a function -/
noncomputable def dist (E : List (α × α × Int)) (u d : α) : Option Int := if h : ∃ o, IsD E u d o then Classical.choose h else none
theorem dist_is {E : List (α × α × Int)} (hp : Pos E) (u d : α) : IsD E u d (dist E u d) := by
  unfold dist
  rw [dif_pos (isD_ex hp u d)]
  exact Classical.choose_spec (isD_ex hp u d)
theorem dist_eq {E : List (α × α × Int)} (hp : Pos E) {u d : α} {o : Option Int} (h : IsD E u d o) : dist E u d = o := (dist_is hp u d).uniq h
theorem dist_self {E : List (α × α × Int)} (hp : Pos E) (d : α) : dist E d d = some 0 :=
  dist_eq hp ⟨⟨0, .nil d⟩, fun n ⟨k, hk⟩ => by have := hk.nonneg hp; omega⟩
theorem dist_zero {E : List (α × α × Int)} (hp : Pos E) {u d : α} (h : dist E u d = some 0) : u = d := by
  have hd := dist_is hp u d
  rw [h] at hd
  obtain ⟨⟨k, hk⟩, _⟩ := hd
  have h1 := hk.nonneg hp
  rcases hk.inv with ⟨e1, _⟩ | ⟨v, l, m, j, _, _, ht, e1, e2⟩
  · exact e1
  · omega
theorem dist_nonneg {E : List (α × α × Int)} (hp : Pos E) {u d : α} {n : Int} (h : dist E u d = some n) : 0 ≤ n := by
  have hd := dist_is hp u d
  rw [h] at hd
  obtain ⟨⟨k, hk⟩, _⟩ := hd
  have := hk.nonneg hp
  omega
theorem dist_congr {E E' : List (α × α × Int)} (hp : Pos E) (h : ∀ e, e ∈ E ↔ e ∈ E') (u d : α) : dist E u d = dist E' u d := by
  have hp' : Pos E' := fun u v l he => hp u v l ((h _).mpr he)
  refine dist_eq hp ?_
  have hd := dist_is hp' u d
  have go : ∀ n, Wk E u d n ↔ Wk E' u d n := fun n =>
    ⟨fun ⟨k, hk⟩ => ⟨k, hk.weak (fun _ z => z) fun e he => (h e).mp he⟩, fun ⟨k, hk⟩ => ⟨k, hk.weak (fun _ z => z) fun e he => (h e).mpr he⟩⟩
  cases e : dist E' u d with
  | none => rw [e] at hd; exact fun n hn => hd n ((go n).mp hn)
  | some m => rw [e] at hd; exact ⟨(go m).mpr hd.1, fun n hn => hd.2 n ((go n).mp hn)⟩

/-! ### few edges are enough -/
/-- the last stay at u -/
theorem last_stay {E : List (α × α × Int)} (hp : Pos E) {S : α → Prop} (u : α) {x d : α} {n : Int} {k : Nat} (h : Walk E S x d n k) :
    Walk E (fun y => S y ∧ y ≠ u) x d n k ∨ ∃ v l m j, (u, v, l) ∈ E ∧ S u ∧ Walk E (fun y => S y ∧ y ≠ u) v d m j ∧ l + m ≤ n := by
  induction h with
  | nil d => exact .inl (.nil d)
  | @cons x y d l n k he hs _ ih =>
    rcases ih with ih | ⟨v, l', m, j, h1, h2, h3, h4⟩
    · rcases Classical.em (x = u) with e | e
      · subst e
        exact .inr ⟨y, l, n, k, he, hs, ih, Int.le_refl _⟩
      · exact .inl (.cons he ⟨hs, e⟩ ih)
    · have := hp _ _ _ he
      exact .inr ⟨v, l', m, j, h1, h2, h3, by omega⟩
theorem few {E : List (α × α × Int)} (hp : Pos E) : ∀ (c : Nat) (V : List α) {u d : α} {n : Int} {k : Nat}, V.length ≤ c → Walk E (· ∈ V) u d n k → ∃ n' k', n' ≤ n ∧ k' ≤ V.length ∧ Walk E (· ∈ V) u d n' k'
  | c, V, u, d, n, k, hc, h => by
    rcases h.first with ⟨e0, e1, e2⟩ | hs
    · subst e0
      exact ⟨0, 0, by omega, Nat.zero_le _, .nil _⟩
    · have h0 := h
      rcases last_stay hp u h0 with h1 | ⟨v', l', m', j', e', s', w', le'⟩
      · rcases h1.first with ⟨e0, e1, e2⟩ | hs'
        · subst e0
          exact ⟨0, 0, by omega, Nat.zero_le _, .nil _⟩
        · exact absurd rfl hs'.2
      · classical
        have hlt : (V.filter (fun y => decide (y ≠ u))).length < V.length := by
          have key : ∀ W : List α, u ∈ W → (W.filter (fun y => decide (y ≠ u))).length < W.length := by
            intro W
            induction W with
            | nil => intro hm; cases hm
            | cons y W ih =>
              intro hm
              rcases Classical.em (y = u) with e | e
              · have h2 := List.length_filter_le (fun y => decide (y ≠ u)) W
                rw [List.filter_cons, if_neg (by simp [e]), List.length_cons]
                omega
              · have hm' : u ∈ W := by
                  rcases List.mem_cons.mp hm with z | z
                  · exact absurd z.symm e
                  · exact z
                have := ih hm'
                rw [List.filter_cons, if_pos (by simp [e]), List.length_cons, List.length_cons]
                omega
          exact key V hs
        have w2 : Walk E (· ∈ V.filter (fun y => decide (y ≠ u))) v' d m' j' := w'.weak (fun y hy => List.mem_filter.mpr ⟨hy.1, by simp [hy.2]⟩) (fun _ z => z)
        match c, hc with
        | 0, hc => omega
        | c + 1, hc =>
          obtain ⟨n2, k2, a1, a2, a3⟩ := few hp c _ (by omega) w2
          refine ⟨l' + n2, k2 + 1, by omega, by omega, .cons e' s' (a3.weak (fun y hy => (List.mem_filter.mp hy).1) fun _ z => z)⟩

/-! ### the rounds -/
def Sound (E : List (α × α × Int)) (d : α) (f : α → Option Int) : Prop := ∀ r m, f r = some m → Wk E r d m
def Comp (E : List (α × α × Int)) (d : α) (j : Nat) (f : α → Option Int) : Prop := ∀ r n k, Walk E (fun _ => True) r d n k → k ≤ j → ∃ m, f r = some m ∧ m ≤ n
/-- the state in a round that began with g, behind some edges -/
structure Rnd (E : List (α × α × Int)) (d : α) (g : α → Option Int) (pre : List (α × α × Int)) (f : α → Option Int) : Prop where
  sound : Sound E d f
  mono : ∀ r m, g r = some m → ∃ m', f r = some m' ∧ m' ≤ m
  done : ∀ u v l y, (u, v, l) ∈ pre → g v = some y → ∃ x, f u = some x ∧ x ≤ l + y
theorem Rnd.start {E : List (α × α × Int)} {d : α} {g : α → Option Int} (h : Sound E d g) : Rnd E d g [] g :=
  ⟨h, fun r m e => ⟨m, e, Int.le_refl _⟩, fun u v l y hm => by cases hm⟩
theorem Rnd.fin {E : List (α × α × Int)} {d : α} {g f : α → Option Int} {j : Nat} (R : Rnd E d g E f) (c : Comp E d j g) : Comp E d (j + 1) f := by
  intro r n k h hk
  rcases h.inv with ⟨e1, e2, e3⟩ | ⟨v, l, n', k', he, _, ht, e1, e2⟩
  · subst e1
    obtain ⟨m, e, hm⟩ := c r 0 0 (.nil _) (Nat.zero_le _)
    obtain ⟨m', e', hm'⟩ := R.mono _ _ e
    exact ⟨m', e', by omega⟩
  · obtain ⟨y, e, hy⟩ := c v n' k' ht (by omega)
    obtain ⟨x, e', hx⟩ := R.done _ _ _ _ he e
    exact ⟨x, e', by omega⟩
/-- an edge whose end is not found -/
theorem Rnd.skip {E : List (α × α × Int)} {d : α} {g f : α → Option Int} {pre : List (α × α × Int)} {u v : α} {l : Int} (R : Rnd E d g pre f) (h : f v = none) : Rnd E d g (pre ++ [(u, v, l)]) f := by
  refine ⟨R.sound, R.mono, fun u' v' l' y hm e => ?_⟩
  rcases List.mem_append.mp hm with z | z
  · exact R.done _ _ _ _ z e
  · have z := List.mem_singleton.mp z
    injection z with z1 z2
    injection z2 with z2 z3
    subst z1; subst z2; subst z3
    obtain ⟨m', e', _⟩ := R.mono _ _ e
    rw [h] at e'
    cases e'
/-- an edge that brings nothing -/
theorem Rnd.keep {E : List (α × α × Int)} {d : α} {g f : α → Option Int} {pre : List (α × α × Int)} {u v : α} {l x y : Int} (R : Rnd E d g pre f) (h : f v = some y) (hu : f u = some x) (hx : x ≤ l + y) : Rnd E d g (pre ++ [(u, v, l)]) f := by
  refine ⟨R.sound, R.mono, fun u' v' l' y' hm e => ?_⟩
  rcases List.mem_append.mp hm with z | z
  · exact R.done _ _ _ _ z e
  · have z := List.mem_singleton.mp z
    injection z with z1 z2
    injection z2 with z2 z3
    subst z1; subst z2; subst z3
    obtain ⟨m', e', hm'⟩ := R.mono _ _ e
    rw [h] at e'
    injection e' with e'
    exact ⟨x, hu, by omega⟩
/-- an edge that brings a shorter way -/
theorem Rnd.put {E : List (α × α × Int)} {d : α} {g f f' : α → Option Int} {pre : List (α × α × Int)} {u v : α} {l y : Int} (R : Rnd E d g pre f) (he : (u, v, l) ∈ E) (h : f v = some y)
    (hu : ∀ x, f u = some x → l + y ≤ x) (e1 : f' u = some (l + y)) (e2 : ∀ r, r ≠ u → f' r = f r) : Rnd E d g (pre ++ [(u, v, l)]) f' := by
  have up : ∀ r m, f r = some m → ∃ m', f' r = some m' ∧ m' ≤ m := fun r m e => by
    rcases Classical.em (r = u) with z | z
    · subst z; exact ⟨_, e1, hu m e⟩
    · exact ⟨m, (e2 r z).trans e, Int.le_refl _⟩
  refine ⟨fun r m e => ?_, fun r m e => ?_, fun u' v' l' y' hm e => ?_⟩
  · rcases Classical.em (r = u) with z | z
    · subst z
      rw [e1] at e
      injection e with e
      subst e
      obtain ⟨k, hk⟩ := R.sound _ _ h
      exact ⟨k + 1, .cons he trivial hk⟩
    · rw [e2 r z] at e
      exact R.sound _ _ e
  · obtain ⟨m1, h1, h2⟩ := R.mono _ _ e
    obtain ⟨m2, h3, h4⟩ := up _ _ h1
    exact ⟨m2, h3, by omega⟩
  · rcases List.mem_append.mp hm with z | z
    · obtain ⟨x, h1, h2⟩ := R.done _ _ _ _ z e
      obtain ⟨x', h3, h4⟩ := up _ _ h1
      exact ⟨x', h3, by omega⟩
    · have z := List.mem_singleton.mp z
      injection z with z1 z2
      injection z2 with z2 z3
      subst z1; subst z2; subst z3
      obtain ⟨m', e', hm'⟩ := R.mono _ _ e
      rw [h] at e'
      injection e' with e'
      exact ⟨_, e1, by omega⟩
theorem Comp.start {E : List (α × α × Int)} {d : α} {f : α → Option Int} (h : f d = some 0) : Comp E d 0 f := by
  intro r n k hw hk
  rcases hw.inv with ⟨e1, e2, e3⟩ | ⟨v, l, n', k', he, _, ht, e1, e2⟩
  · subst e1
    exact ⟨0, h, by omega⟩
  · omega
theorem Sound.start {E : List (α × α × Int)} {d : α} {f : α → Option Int} (h : ∀ r m, f r = some m → r = d ∧ m = 0) : Sound E d f := by
  intro r m e
  obtain ⟨e1, e2⟩ := h r m e
  subst e1; subst e2
  exact ⟨0, .nil _⟩
theorem Walk.among {E : List (α × α × Int)} {V : List α} (hV : ∀ u v l, (u, v, l) ∈ E → u ∈ V) {x d : α} {n : Int} {k : Nat} (h : Walk E (fun _ => True) x d n k) : Walk E (· ∈ V) x d n k := by
  induction h with
  | nil => exact .nil _
  | cons he _ _ ih => exact .cons he (hV _ _ _ he) ih
/-- after as many rounds as there are routers -/
theorem rounds_fin {E : List (α × α × Int)} (hp : Pos E) {V : List α} (hV : ∀ u v l, (u, v, l) ∈ E → u ∈ V) {d : α} {f : α → Option Int} (hs : Sound E d f) (hc : Comp E d V.length f) (r : α) : f r = dist E r d := by
  refine (dist_eq hp ?_).symm
  have fw : ∀ n, Wk E r d n → ∃ m, f r = some m ∧ m ≤ n := fun n ⟨k, hk⟩ => by
    have h1 : Walk E (· ∈ V) r d n k := hk.among hV
    obtain ⟨n', k', a1, a2, a3⟩ := few hp V.length V (Nat.le_refl _) h1
    obtain ⟨m, e, hm⟩ := hc r n' k' (a3.weak (fun _ _ => trivial) fun _ z => z) a2
    exact ⟨m, e, by omega⟩
  cases e : f r with
  | none =>
    intro n hn
    obtain ⟨m, e', _⟩ := fw n hn
    rw [e] at e'
    cases e'
  | some m =>
    refine ⟨hs _ _ e, fun n hn => ?_⟩
    obtain ⟨m', e', hm⟩ := fw n hn
    rw [e] at e'
    injection e' with e'
    omega

/-! ### one link that grows -/
def oMin : Option Int → Option Int → Option Int
  | some x, some y => some (if y < x then y else x)
  | some x, none => some x
  | none, o => o
def oAdd : Option Int → Option Int → Option Int
  | some x, some y => some (x + y)
  | _, _ => none
def OLe : Option Int → Option Int → Prop
  | _, none => True
  | some x, some y => x ≤ y
  | none, some _ => False

theorem split_walk {E0 E : List (α × α × Int)} (hp : Pos E) {a b : α} {th bk : Int} (hE : ∀ e, e ∈ E ↔ e ∈ E0 ∨ e = (a, b, th) ∨ e = (b, a, bk)) {u d : α} {n : Int} {k : Nat} (h : Walk E (fun _ => True) u d n k) :
    (∃ m, m ≤ n ∧ Wk E0 u d m) ∨ (∃ p q, Wk E0 u a p ∧ Wk E0 b d q ∧ p + th + q ≤ n) ∨ (∃ p q, Wk E0 u b p ∧ Wk E0 a d q ∧ p + bk + q ≤ n) := by
  have hp0 : Pos E0 := fun u v l he => hp u v l ((hE _).mpr (.inl he))
  have nn : ∀ {x y : α} {m : Int}, Wk E0 x y m → 0 ≤ m := fun ⟨k, hk⟩ => by have := hk.nonneg hp0; omega
  induction h with
  | nil d => exact .inl ⟨0, Int.le_refl _, 0, .nil d⟩
  | @cons u v d l n k he _ _ ih =>
    have hl := hp _ _ _ he
    rcases (hE _).mp he with e | e | e
    · have pre : ∀ {x : α} {m : Int}, Wk E0 v x m → Wk E0 u x (l + m) := fun ⟨k, hk⟩ => ⟨k + 1, .cons e trivial hk⟩
      rcases ih with ⟨m, hm, w⟩ | ⟨p, q, w1, w2, hq⟩ | ⟨p, q, w1, w2, hq⟩
      · exact .inl ⟨l + m, by omega, pre w⟩
      · exact .inr (.inl ⟨l + p, q, pre w1, w2, by omega⟩)
      · exact .inr (.inr ⟨l + p, q, pre w1, w2, by omega⟩)
    · injection e with e1 e2
      injection e2 with e2 e3
      subst e1; subst e2; subst e3
      rcases ih with ⟨m, hm, w⟩ | ⟨p, q, w1, w2, hq⟩ | ⟨p, q, w1, w2, hq⟩
      · exact .inr (.inl ⟨0, m, ⟨0, .nil _⟩, w, by omega⟩)
      · have := nn w1
        exact .inr (.inl ⟨0, q, ⟨0, .nil _⟩, w2, by omega⟩)
      · have := nn w1
        have := hp _ _ _ ((hE _).mpr (.inr (.inr rfl)))
        exact .inl ⟨q, by omega, w2⟩
    · injection e with e1 e2
      injection e2 with e2 e3
      subst e1; subst e2; subst e3
      rcases ih with ⟨m, hm, w⟩ | ⟨p, q, w1, w2, hq⟩ | ⟨p, q, w1, w2, hq⟩
      · exact .inr (.inr ⟨0, m, ⟨0, .nil _⟩, w, by omega⟩)
      · have := nn w1
        have := hp _ _ _ ((hE _).mpr (.inr (.inl rfl)))
        exact .inl ⟨q, by omega, w2⟩
      · have := nn w1
        exact .inr (.inr ⟨0, q, ⟨0, .nil _⟩, w2, by omega⟩)

/-- the way over the link -/
noncomputable def over (E0 : List (α × α × Int)) (a b : α) (th bk : Int) (u d : α) : Option Int :=
  oMin (oAdd (oAdd (dist E0 u a) (some th)) (dist E0 b d)) (oAdd (oAdd (dist E0 u b) (some bk)) (dist E0 a d))

theorem dist_over {E0 E : List (α × α × Int)} (hp : Pos E) {a b : α} {th bk : Int} (hE : ∀ e, e ∈ E ↔ e ∈ E0 ∨ e = (a, b, th) ∨ e = (b, a, bk)) (u d : α) :
    dist E u d = oMin (dist E0 u d) (over E0 a b th bk u d) := by
  have hp0 : Pos E0 := fun u v l he => hp u v l ((hE _).mpr (.inl he))
  have up : ∀ {x y : α} {m : Int}, Wk E0 x y m → Wk E x y m := fun ⟨k, hk⟩ => ⟨k, hk.weak (fun _ z => z) fun e he => (hE e).mpr (.inl he)⟩
  have app : ∀ {x y z : α} {m n : Int}, Wk E x y m → Wk E y z n → Wk E x z (m + n) := fun ⟨k, hk⟩ ⟨j, hj⟩ => ⟨k + j, hk.app hj⟩
  have l1 : Wk E a b th := by have := Walk.cons ((hE _).mpr (.inr (.inl rfl))) trivial (Walk.nil (E := E) (S := fun _ => True) b); rw [Int.add_zero] at this; exact ⟨1, this⟩
  have l2 : Wk E b a bk := by have := Walk.cons ((hE _).mpr (.inr (.inr rfl))) trivial (Walk.nil (E := E) (S := fun _ => True) a); rw [Int.add_zero] at this; exact ⟨1, this⟩
  refine dist_eq hp ?_
  have hd := dist_is hp0 u d
  have ha := dist_is hp0 u a
  have hb := dist_is hp0 u b
  have had := dist_is hp0 a d
  have hbd := dist_is hp0 b d
  unfold over
  generalize dist E0 u d = o0 at hd
  generalize dist E0 u a = o1 at ha
  generalize dist E0 u b = o2 at hb
  generalize dist E0 a d = o3 at had
  generalize dist E0 b d = o4 at hbd
  have lowD : ∀ n, Wk E0 u d n → ∃ m, o0 = some m ∧ m ≤ n := fun n hn => by
    cases o0 with
    | none => exact absurd hn (hd n)
    | some m => exact ⟨m, rfl, hd.2 n hn⟩
  have low1 : ∀ n, Wk E0 u a n → ∃ m, o1 = some m ∧ m ≤ n := fun n hn => by
    cases o1 with
    | none => exact absurd hn (ha n)
    | some m => exact ⟨m, rfl, ha.2 n hn⟩
  have low2 : ∀ n, Wk E0 u b n → ∃ m, o2 = some m ∧ m ≤ n := fun n hn => by
    cases o2 with
    | none => exact absurd hn (hb n)
    | some m => exact ⟨m, rfl, hb.2 n hn⟩
  have low3 : ∀ n, Wk E0 a d n → ∃ m, o3 = some m ∧ m ≤ n := fun n hn => by
    cases o3 with
    | none => exact absurd hn (had n)
    | some m => exact ⟨m, rfl, had.2 n hn⟩
  have low4 : ∀ n, Wk E0 b d n → ∃ m, o4 = some m ∧ m ≤ n := fun n hn => by
    cases o4 with
    | none => exact absurd hn (hbd n)
    | some m => exact ⟨m, rfl, hbd.2 n hn⟩
  -- the two sides as a statement of their own
  have mk : ∀ x, (x = o0 ∨ x = oAdd (oAdd o1 (some th)) o4 ∨ x = oAdd (oAdd o2 (some bk)) o3) → ∀ m, x = some m → Wk E u d m := by
    intro x hx m hm
    rcases hx with e | e | e
    · subst e
      rw [hm] at hd
      exact up hd.1
    · cases o1 with
      | none => rw [e] at hm; cases hm
      | some m1 => cases o4 with
        | none => rw [e] at hm; cases hm
        | some m4 =>
          rw [e] at hm
          injection hm with hm
          rw [← hm]
          exact app (app (up ha.1) l1) (up hbd.1)
    · cases o2 with
      | none => rw [e] at hm; cases hm
      | some m1 => cases o3 with
        | none => rw [e] at hm; cases hm
        | some m4 =>
          rw [e] at hm
          injection hm with hm
          rw [← hm]
          exact app (app (up hb.1) l2) (up had.1)
  have lo : ∀ n, Wk E u d n → ∃ m, (o0 = some m ∨ oAdd (oAdd o1 (some th)) o4 = some m ∨ oAdd (oAdd o2 (some bk)) o3 = some m) ∧ m ≤ n := by
    intro n ⟨k, hk⟩
    rcases split_walk hp hE hk with ⟨m, hm, w⟩ | ⟨p, q, w1, w2, hq⟩ | ⟨p, q, w1, w2, hq⟩
    · obtain ⟨m', e, h⟩ := lowD _ w
      exact ⟨m', .inl e, by omega⟩
    · obtain ⟨m1, e1, h1⟩ := low1 _ w1
      obtain ⟨m4, e4, h4⟩ := low4 _ w2
      exact ⟨m1 + th + m4, .inr (.inl (by rw [e1, e4]; rfl)), by omega⟩
    · obtain ⟨m1, e1, h1⟩ := low2 _ w1
      obtain ⟨m4, e4, h4⟩ := low3 _ w2
      exact ⟨m1 + bk + m4, .inr (.inr (by rw [e1, e4]; rfl)), by omega⟩
  have m0 := mk o0 (.inl rfl)
  have m1 := mk _ (.inr (.inl rfl))
  have m2 := mk _ (.inr (.inr rfl))
  generalize oAdd (oAdd o1 (some th)) o4 = x1 at lo m1
  generalize oAdd (oAdd o2 (some bk)) o3 = x2 at lo m2
  clear mk lowD low1 low2 low3 low4 hd ha hb had hbd
  rcases o0 with _ | v0 <;> rcases x1 with _ | v1 <;> rcases x2 with _ | v2 <;> simp only [oMin]
  all_goals first
    | (intro n hn; obtain ⟨m, h, _⟩ := lo n hn; rcases h with h | h | h <;> cases h)
    | (refine ⟨?_, fun n hn => ?_⟩
       · first
          | exact m0 _ rfl
          | exact m1 _ rfl
          | exact m2 _ rfl
          | ((repeat' split) <;> first | exact m0 _ rfl | exact m1 _ rfl | exact m2 _ rfl)
       · obtain ⟨m, h, hm⟩ := lo n hn
         rcases h with h | h | h <;> first | (cases h; done) | (injection h with h; subst h; (repeat' split) <;> omega))

/-! ### standing -/
/-- the link from u to n of length l begins a shortest way to d -/
def Stand (E : List (α × α × Int)) (u n d : α) (l : Int) : Prop := u ≠ d ∧ ∃ x, dist E n d = some x ∧ dist E u d = some (l + x)

theorem dist_edge {E : List (α × α × Int)} (hp : Pos E) {u n : α} {l : Int} (he : (u, n, l) ∈ E) (x : α) : OLe (dist E u x) ((dist E n x).map (l + ·)) := by
  have h1 := dist_is hp n x
  have h2 := dist_is hp u x
  generalize dist E n x = o1 at h1 ⊢
  generalize dist E u x = o2 at h2 ⊢
  cases o1 with
  | none => cases o2 <;> trivial
  | some m =>
    obtain ⟨⟨k, hk⟩, _⟩ := h1
    have w : Wk E u x (l + m) := ⟨k + 1, .cons he trivial hk⟩
    cases o2 with
    | none => exact absurd w (h2 _)
    | some m2 => exact h2.2 _ w

theorem over_shift (E0 : List (α × α × Int)) (a b : α) (th bk t : Int) (u d : α) : over E0 a b (th + t) (bk + t) u d = (over E0 a b th bk u d).map (· + t) := by
  unfold over
  generalize dist E0 u a = o1
  generalize dist E0 u b = o2
  generalize dist E0 a d = o3
  generalize dist E0 b d = o4
  rcases o1 with _ | x1 <;> rcases o2 with _ | x2 <;> rcases o3 with _ | x3 <;> rcases o4 with _ | x4 <;>
    simp only [oAdd, oMin, Option.map_some, Option.map_none, Option.some.injEq, reduceCtorEq]
  all_goals first | trivial | omega | ((repeat' split) <;> omega)
theorem over_edge {E0 : List (α × α × Int)} (hp : Pos E0) {a b : α} {th bk : Int} {u n : α} {l : Int} (he : (u, n, l) ∈ E0) (d : α) : OLe (over E0 a b th bk u d) ((over E0 a b th bk n d).map (l + ·)) := by
  have h1 := dist_edge hp he a
  have h2 := dist_edge hp he b
  unfold over
  generalize dist E0 u a = o1 at h1
  generalize dist E0 u b = o2 at h2
  generalize dist E0 n a = p1 at h1
  generalize dist E0 n b = p2 at h2
  generalize dist E0 a d = o3
  generalize dist E0 b d = o4
  rcases o1 with _ | x1 <;> rcases o2 with _ | x2 <;> rcases p1 with _ | y1 <;> rcases p2 with _ | y2 <;> rcases o3 with _ | x3 <;> rcases o4 with _ | x4 <;>
    simp only [oAdd, oMin, OLe, Option.map_some, Option.map_none] at h1 h2 ⊢
  all_goals first | trivial | omega | ((repeat' split) <;> omega)

/-- the kinds of a link's row: for all shifts, for none, up to the point, from the point on -/
inductive Kind (S : Int → Prop) (pt : Option Int) : Prop
  | all : (∀ t, S t) → Kind S pt
  | never : (∀ t, ¬ S t) → Kind S pt
  | upto (p : Int) : pt = some p → (∀ t, S t ↔ t ≤ p) → Kind S pt
  | fromOn (p : Int) : pt = some p → (∀ t, S t ↔ p ≤ t) → Kind S pt

/-- the point of a router -/
def pointOf (P D : Option Int) : Option Int := match P, D with
  | some x, some y => some (x - y)
  | _, _ => none

theorem kind_of {P D P' D' : Option Int} {l : Int} (h1 : OLe P (P'.map (l + ·))) (h2 : OLe D (D'.map (l + ·))) :
    Kind (fun t => ∃ x, oMin P' (D'.map (· + t)) = some x ∧ oMin P (D.map (· + t)) = some (l + x)) (pointOf P D) := by
  rcases P with _ | p <;> rcases P' with _ | p' <;> simp only [OLe, Option.map_some, Option.map_none] at h1
  all_goals rcases D with _ | q <;> rcases D' with _ | q' <;> simp only [OLe, Option.map_some, Option.map_none] at h2
  all_goals simp only [oMin, Option.map_some, Option.map_none, pointOf, Option.some.injEq, reduceCtorEq, false_and, exists_false, and_false, exists_eq_left']
  · exact .never fun t h => h
  · exact .never fun t h => h
  · rcases Classical.em (q = l + q') with e | e
    · exact .all fun t => by omega
    · exact .never fun t => by omega
  · exact .never fun t h => h
  · exact .never fun t h => h
  · rcases Classical.em (q = l + q') with e | e
    · refine .upto (p - q) rfl fun t => ?_
      split <;> omega
    · refine .never fun t => ?_
      split <;> omega
  · rcases Classical.em (p = l + p') with e | e
    · exact .all fun t => by omega
    · exact .never fun t => by omega
  · rcases Classical.em (p = l + p') with e | e
    · refine .fromOn (p - q) rfl fun t => ?_
      split <;> omega
    · refine .never fun t => ?_
      split <;> omega
  · rcases Classical.em (p = l + p') with e | e <;> rcases Classical.em (q = l + q') with e' | e'
    · refine .all fun t => ?_
      (repeat' split) <;> omega
    · refine .fromOn (p - q) rfl fun t => ?_
      (repeat' split) <;> omega
    · refine .upto (p - q) rfl fun t => ?_
      (repeat' split) <;> omega
    · refine .never fun t => ?_
      (repeat' split) <;> omega

/-- the links of the shifted nets: E t has the links of E0 and the changed one, longer by t -/
theorem stand_kind {E0 : List (α × α × Int)} {E : Int → List (α × α × Int)} {a b : α} {th bk least : Int} (hp0 : Pos E0) (hpl : ∀ t, least ≤ t → 1 ≤ th + t ∧ 1 ≤ bk + t)
    (hE : ∀ t, least ≤ t → ∀ e, e ∈ E t ↔ e ∈ E0 ∨ e = (a, b, th + t) ∨ e = (b, a, bk + t)) {u n d : α} {l : Int} (he : (u, n, l) ∈ E0) (hud : u ≠ d) :
    ∃ S : Int → Prop, Kind S (pointOf (dist E0 u d) (over E0 a b th bk u d)) ∧ ∀ t, least ≤ t → (Stand (E t) u n d l ↔ S t) := by
  refine ⟨_, kind_of (dist_edge hp0 he d) (over_edge hp0 he d), fun t ht => ?_⟩
  have hp : Pos (E t) := fun x y z hm => by
    rcases (hE t ht _).mp hm with h | h | h
    · exact hp0 _ _ _ h
    · injection h with _ h
      injection h with _ h
      rw [h]
      exact (hpl t ht).1
    · injection h with _ h
      injection h with _ h
      rw [h]
      exact (hpl t ht).2
  unfold Stand
  rw [dist_over hp (hE t ht) u d, dist_over hp (hE t ht) n d, over_shift, over_shift]
  exact ⟨fun h => h.2, fun h => ⟨hud, h⟩⟩

/-! ### the law's row -/
/-- where a row turns -/
def turnsOf (row : List Bool) : List Nat := ((List.range row.length).filter fun i => decide (1 ≤ i) && (row.getD i false != row.getD (i - 1) false))

theorem filter_one {p : Nat → Bool} {c : Nat} : ∀ n, (∀ i, i < n → (p i = true ↔ i = c)) → (List.range n).filter p = if c < n then [c] else [] := by
  intro n
  induction n with
  | zero => intro _; rfl
  | succ n ih =>
    intro h
    rw [List.range_succ, List.filter_append, ih fun i hi => h i (by omega)]
    rcases Classical.em (n = c) with e | e
    · subst e
      rw [if_neg (Nat.lt_irrefl n), if_pos (Nat.lt_succ_self n), List.filter_cons, if_pos ((h n (by omega)).mpr rfl)]
      rfl
    · have hn : ¬ p n = true := fun z => e ((h n (by omega)).mp z)
      rw [List.filter_cons, if_neg hn]
      show _ ++ [] = _
      rw [List.append_nil]
      rcases Nat.lt_or_ge c n with z | z
      · rw [if_pos z, if_pos (by omega)]
      · rw [if_neg (by omega), if_neg (by omega)]
theorem filter_no {p : Nat → Bool} (n : Nat) (h : ∀ i, i < n → p i = false) : (List.range n).filter p = [] := by
  rw [List.filter_eq_nil_iff]
  intro i hi
  rw [h i (List.mem_range.mp hi)]
  exact Bool.false_ne_true

/-- what the law asks of a row: no turn, or one, at the point -/
def RowOk (row : List Bool) (least : Int) (pt : Option Int) : Prop :=
  turnsOf row = [] ∨ ∃ c p, turnsOf row = [c] ∧ 1 ≤ c ∧ c < row.length ∧ pt = some p ∧ p = if row.getD 0 false = true then least + ((c : Int) - 1) else least + (c : Int)

theorem row_ok {S : Int → Prop} {pt : Option Int} (h : Kind S pt) {row : List Bool} {least : Int} (hr : ∀ i : Nat, i < row.length → (row.getD i false = true ↔ S (least + (i : Int)))) : RowOk row least pt := by
  have same : (∀ i j, i < row.length → j < row.length → row.getD i false = row.getD j false) → turnsOf row = [] := fun hs => filter_no _ fun i hi => by
    rcases Classical.em (1 ≤ i) with z | z
    · rw [hs i (i - 1) hi (by omega)]
      simp
    · rw [decide_eq_false z]
      rfl
  have bs : ∀ {x y : Bool}, (x = true ↔ y = true) → x = y := fun {x y} h => by cases x <;> cases y <;> simp at h ⊢
  cases h with
  | all h => exact .inl (same fun i j hi hj => bs ⟨fun _ => (hr j hj).mpr (h _), fun _ => (hr i hi).mpr (h _)⟩)
  | never h => exact .inl (same fun i j hi hj => bs ⟨fun z => absurd ((hr i hi).mp z) (h _), fun z => absurd ((hr j hj).mp z) (h _)⟩)
  | upto p hp h =>
    rcases Classical.em (∃ c : Nat, 1 ≤ c ∧ c < row.length ∧ least + (c : Int) - 1 = p) with ⟨c, h1, h2, h3⟩ | hno
    · refine .inr ⟨c, p, ?_, h1, h2, hp, ?_⟩
      · unfold turnsOf
        rw [filter_one (c := c) row.length fun i hi => ?_, if_pos h2]
        rw [Bool.and_eq_true, decide_eq_true_eq, bne_iff_ne]
        constructor
        · intro ⟨g1, g2⟩
          have a1 := (hr i hi).trans (h _)
          have a2 := (hr (i - 1) (by omega)).trans (h _)
          rcases Classical.em (row.getD i false = true) with z | z
          · exact absurd (bs ⟨fun _ => a2.mpr (by have := a1.mp z; omega), fun _ => z⟩) g2
          · have z2 : row.getD (i - 1) false = true := by
              cases q : row.getD (i - 1) false with
              | true => rfl
              | false => exact absurd (by rw [q]; exact Bool.eq_false_iff.mpr z) g2
            have b1 := a2.mp z2
            have b2 : ¬ (least + (i : Int) ≤ p) := fun y => z (a1.mpr y)
            omega
        · intro e
          subst e
          refine ⟨h1, fun e => ?_⟩
          have a1 := (hr i hi).trans (h _)
          have a2 := (hr (i - 1) (by omega)).trans (h _)
          have b2 := a2.mpr (by omega)
          rw [← e] at b2
          have := a1.mp b2
          omega
      · rw [if_pos ((hr 0 (by omega)).mpr ((h _).mpr (by omega)))]
        omega
    · refine .inl ?_
      refine filter_no _ fun i hi => ?_
      rcases Classical.em (1 ≤ i) with z | z
      · rw [decide_eq_true z, Bool.true_and, bne_eq_false_iff_eq]
        refine bs ?_
        rw [hr i hi, hr (i - 1) (by omega), h, h]
        have : ¬ (least + (i : Int) - 1 = p) := fun e => hno ⟨i, z, hi, e⟩
        omega
      · rw [decide_eq_false z]
        rfl
  | fromOn p hp h =>
    rcases Classical.em (∃ c : Nat, 1 ≤ c ∧ c < row.length ∧ least + (c : Int) = p) with ⟨c, h1, h2, h3⟩ | hno
    · refine .inr ⟨c, p, ?_, h1, h2, hp, ?_⟩
      · unfold turnsOf
        rw [filter_one (c := c) row.length fun i hi => ?_, if_pos h2]
        rw [Bool.and_eq_true, decide_eq_true_eq, bne_iff_ne]
        constructor
        · intro ⟨g1, g2⟩
          have a1 := (hr i hi).trans (h _)
          have a2 := (hr (i - 1) (by omega)).trans (h _)
          rcases Classical.em (row.getD (i - 1) false = true) with z | z
          · exact absurd (bs ⟨fun _ => z, fun _ => a1.mpr (by have := a2.mp z; omega)⟩) g2
          · have z2 : row.getD i false = true := by
              cases q : row.getD i false with
              | true => rfl
              | false => exact absurd (by rw [q]; exact (Bool.eq_false_iff.mpr z).symm) g2
            have b1 := a1.mp z2
            have b2 : ¬ (p ≤ least + ((i - 1 : Nat) : Int)) := fun y => z (a2.mpr y)
            omega
        · intro e
          subst e
          refine ⟨h1, fun e => ?_⟩
          have a1 := (hr i hi).trans (h _)
          have a2 := (hr (i - 1) (by omega)).trans (h _)
          have b2 := a1.mpr (by omega)
          rw [e] at b2
          have := a2.mp b2
          omega
      · have n0 : ¬ row.getD 0 false = true := fun z => by have := (h _).mp ((hr 0 (by omega)).mp z); omega
        rw [if_neg n0]
        omega
    · refine .inl ?_
      refine filter_no _ fun i hi => ?_
      rcases Classical.em (1 ≤ i) with z | z
      · rw [decide_eq_true z, Bool.true_and, bne_eq_false_iff_eq]
        refine bs ?_
        rw [hr i hi, hr (i - 1) (by omega), h, h]
        have : ¬ (least + (i : Int) = p) := fun e => hno ⟨i, z, hi, e⟩
        omega
      · rw [decide_eq_false z]
        rfl
end
end QM
/-! Sets of any kind of items made of a list, and sorted of them. -/
namespace QS
open PySem PySem.Spec PyProof.Rows L2

def freshOb (w : World) : Obj := { cls := .type "set", dict := none, data := .set #[] 0 (.fresh 0 0 (!w.params.followText "set-order")) }
/-- one item goes into the set at S; Core i: what holds of the set's object behind i items -/
def Adds (P : Program) (w : World) (h0 : Heap) (items : Array Value) (u : Nat) (Core : Nat → Obj → Prop) : Prop :=
  ∀ (i : Nat) (v : Value) (A : Around) (E : Value → Shared → Prop) (s : Shared) (S : Addr) (o : Obj) (Q : Bool → Shared → Prop),
    items[i]? = some v → A.units ≤ u → h0.get? S = none → (∀ b x, h0.get? b = some x → s.heap.get? b = some x) → s.heap.get? S = some o → Core i o →
    (∀ b h' tk o', s.toks ≤ tk → Heap.SameBut S s.heap h' → h'.get? S = some o' → Core (i + 1) o' → Q b { s with heap := h', toks := tk }) →
    wpAny (model P w) A (setAdd S v) Q E s

section
variable {P : Program} {w : World} {A : Around} {E : Value → Shared → Prop} {s : Shared}

theorem loop_adds {I S : Addr} {fp wr : List Addr} {G : Array GenState → Array GenState → Prop} {items : Array Value} {St : Nat → Shared → Prop} {R : Result → Shared → Prop} {h0 : Heap} {u : Nat} {Core : Nat → Obj → Prop}
    (W : WalksS P w A.in1 I fp wr G items.size (fun i v => items[i]? = some v) St) (hSf : S ∉ fp) (hS0 : h0.get? S = none) (hw0 : ∀ b ∈ wr, h0.get? b = none) (hu : A.in1.units ≤ u) (ad : Adds P w h0 items u Core) :
    ∀ (left i : Nat) (s : Shared) (o : Obj), items.size - i = left → i ≤ items.size → St i s → (∀ b x, h0.get? b = some x → s.heap.get? b = some x) → s.heap.get? S = some o → Core i o →
      (∀ s' o', Moved (S :: wr) G s s' → s'.heap.get? S = some o' → Core items.size o' → (∀ b x, h0.get? b = some x → s'.heap.get? b = some x) → R (.ok (.ret .none)) s') →
      codeAny (model P w) A (.builtin "set.update.loop" ⟨[.ref S, .ref I], []⟩) R s := by
  have notw : S ∉ wr := fun q => hSf (W.sub _ q)
  have more : ∀ b ∈ wr, b ∈ S :: wr := fun b q => List.mem_cons_of_mem _ q
  have stays : ∀ {s s' : Shared}, Moved wr G s s' → (∀ b x, h0.get? b = some x → s.heap.get? b = some x) → ∀ b x, h0.get? b = some x → s'.heap.get? b = some x := fun mv st b x e =>
    mv.heap b x (fun q => nomatch (hw0 b q).symm.trans e) (st b x e)
  intro left
  induction left with
  | zero =>
    intro i s o hl hi hst st ho c hR
    obtain rfl : i = items.size := by omega
    refine codeAny_builtin F.entry_set_update_loop ?_
    rw [Around.under_plainId F.plain_set_update_loop _]
    show wpAny _ A.in1 (pyNext (.ref I) >>= _) _ _ s
    refine wpAny_bind (W.done s _ _ hst fun s' mv => ?_)
    show wpAny _ A.in1 (ret Value.none) _ _ s'
    exact wpAny_pure (hR s' o (mv.mono more) (mv.heap S _ notw ho) c (stays mv st))
  | succ left ih =>
    intro i s o hl hi hst st ho c hR
    have lt : i < items.size := by omega
    refine codeAny_builtin F.entry_set_update_loop ?_
    rw [Around.under_plainId F.plain_set_update_loop _]
    show wpAny _ A.in1 (pyNext (.ref I) >>= _) _ _ s
    refine wpAny_bind (W.item i s _ _ lt hst fun v s' pv hst' mv => ?_)
    show wpAny _ A.in1 (holding [v] (setAdd S v) >>= _) _ _ s'
    refine wpAny_bind (wpAny_holding ?_)
    refine ad i v A.in1 _ s' S o _ pv hu hS0 (stays mv st) (mv.heap S _ notw ho) c fun b h' tk o' tle sb ho' c' => ?_
    have offS : ∀ b x, b ≠ S → s'.heap.get? b = some x → h'.get? b = some x := fun b x q e => (sb.2 b q).trans e
    refine wpAny_pure ⟨plainId_quiet F.plain_set_update_loop _, ih (i + 1) _ o' (by omega) lt (W.frame _ s' _ _ hst' tle fun b q x e => offS b x (fun z => hSf (z ▸ q)) e) (fun b x e => offS b x (fun z => nomatch (z ▸ hS0 : h0.get? b = none).symm.trans e) (stays mv st b x e)) ho' c' fun s'' o'' mv' h1 h2 h3 => ?_⟩
    exact hR s'' o'' (Moved.trans W.gtrans ((mv.mono more).then_heap tle fun b x q e => offS b x (fun z => q (z ▸ List.mem_cons_self)) e) mv') h1 h2 h3

set_option maxRecDepth 100000 in
/-- set(xs), xs a list -/
theorem set_of_list {l : Addr} {items : Array Value} {Core : Nat → Obj → Prop} {Q : Value → Shared → Prop} (hh : A.handled = none) (hl : s.heap.IsList l items)
    (c0 : Core 0 (freshOb w)) (ad : Adds P w s.heap items (A.units + 16) Core)
    (h : ∀ (h' : Heap) (tk : Nat) (o : Obj), h'.get? s.heap.objs.size = some o → Core items.size o → (∀ b x, s.heap.get? b = some x → h'.get? b = some x) → Q (.ref s.heap.objs.size) { s with heap := h', toks := tk }) :
    wpAny (model P w) A (call (.type "set") [.ref l]) Q E s := by
  obtain ⟨c, tl, hmro⟩ := F.called_set.mro
  have hmade := F.called_set.made
  have hsub := F.called_set.sub
  refine wpAny_call (codeAny_of_tree ?_)
  show wpAny _ _ (callAny (.type "set") _) _ _ _
  refine wpAny_pure ⟨Code.quiet_builtin _ (by decide +kernel), codeAny_builtin F.entry_type_call ?_⟩
  rw [Around.under_plain (weight_type_call_type "set" [.ref l] []) rfl]
  have h1 := F.called_set.notType
  have h2 := F.called_set.canCreate
  have hct := F.typeCall_set_1 (.ref l)
  repeat (any_goals (first | assumption | wp_step))
  refine codeAny_mono (code_set_led1 (.ref l) (E := E) (Q₁ := fun ob t => ob = .ref s.heap.objs.size ∧ t = { s with heap := s.heap.push (freshOb w) }) ⟨rfl, rfl⟩) fun r t hr => ?_
  rcases r with e | fl
  · exact hr
  rcases fl with _ | ob | _ | _ <;> first | exact hr.elim | skip
  obtain ⟨rfl, rfl⟩ := hr
  have gS : (s.heap.push (freshOb w)).get? s.heap.objs.size = some (freshOb w) := Heap.get?_push_size _ rfl
  have tS : Shared.TypeIs { s with heap := s.heap.push (freshOb w) } (.ref s.heap.objs.size) "set" := ⟨_, gS, rfl⟩
  have hli := F.called_set.init.lookup
  have hbi := F.called_set.init.bind (.ref s.heap.objs.size)
  repeat (any_goals (first | assumption | wp_step))
  refine codeAny_mono (codeAny_call_builtin (R := wants (fun r t => r = .none ∧ ∃ h' tk o, t = { s with heap := h', toks := tk } ∧ h'.get? s.heap.objs.size = some o ∧ Core items.size o ∧
      (∀ b x, s.heap.get? b = some x → h'.get? b = some x)) E) F.called_set.init.plain F.entry_set_init (check_set_init_1 tS ?_)) fun r t hr => ?_
  · obtain ⟨⟨oc, od, odt, osl⟩, hol, hc, n, hd⟩ := hl
    simp only at hc hd
    subst hc; subst hd
    have hol1 : (s.heap.push (freshOb w)).get? l = some { cls := .type "list", dict := od, data := .seq items n, slots := osl } := Heap.get?_push_of_some _ hol
    have hsls := F.sub_list_set
    have hslf := F.sub_list_frozenset
    have hne : (Value.type "list" == Value.type "dict") = false := by decide
    have hl1 : (s.heap.push (freshOb w)).IsList l items := ⟨_, hol1, rfl, n, rfl⟩
    unfold Builtin.«set.__init__» noKeywords Builtin.Frozenset.updateFrom
    generalize hPI : pyIter = PI
    wp_walk
    subst hPI
    refine wpAny_pyIter_list hl1 ?_
    refine wpAny_bind (wpAny_runValue ?_)
    have lS : l < s.heap.objs.size := Heap.lt_size hol
    have sz : (s.heap.push (freshOb w)).objs.size = s.heap.objs.size + 1 := Heap.size_push ..
    have hh3 : A.in1.in1.in1.handled = none := by simp [hh]
    have lI : l ≠ (s.heap.push (freshOb w)).objs.size := by rw [sz]; exact Nat.ne_of_lt (Nat.lt_succ_of_lt lS)
    have beyond : ∀ b, s.heap.objs.size ≤ b → s.heap.get? b = none := fun b hb => by
      cases q : s.heap.get? b with
      | none => rfl
      | some x => exact absurd (Nat.lt_of_lt_of_le (Heap.lt_size q) hb) (Nat.lt_irrefl _)
    refine loop_adds (h0 := s.heap) (u := A.units + 16) ((Walks.list hh3 _ l lI items).toS) ?_ (beyond _ (Nat.le_refl _)) (fun b hb => beyond b ?_) ?_ ad (items.size - 0) 0 _ (freshOb w) (by omega) (Nat.zero_le _)
      ⟨⟨_, Heap.get?_push_size _ rfl, rfl, rfl⟩, (hl1.push _)⟩ (fun b x e => Heap.get?_push_of_some _ (Heap.get?_push_of_some _ e)) (Heap.get?_push_of_some _ gS) c0 ?_
    · intro q
      rw [sz] at q
      rcases List.mem_cons.mp q with z | z
      · exact absurd z (Nat.ne_of_lt (Nat.lt_succ_self _))
      · rcases List.mem_cons.mp z with z | z
        · exact absurd z (Nat.ne_of_gt lS)
        · cases z
    · rw [List.mem_singleton.mp hb, sz]
      exact Nat.le_succ _
    · show A.units + 1 + 1 + 1 ≤ A.units + 16
      omega
    · intro s' o' mv ho' c' st
      obtain ⟨h', g', d', tk', os'⟩ := s'
      have eg : g' = s.gens := mv.gens
      have ed : d' = s.drawn := mv.drawn
      have eo : os' = s.os := mv.os
      subst eg; subst ed; subst eo
      show wpAny _ _ _ _ _ _
      refine wpAny_pure ?_
      show wpAny _ _ (ret Value.none) _ _ _
      exact wpAny_pure ⟨rfl, h', tk', o', rfl, ho', c', st⟩
  · rcases r with e | fl
    · exact hr
    rcases fl with _ | v | _ | _ <;> first | exact hr.elim | skip
    obtain ⟨rfl, h', tk, o, rfl, a1, a2, a3⟩ := hr
    repeat (any_goals (first | assumption | wp_step))
    exact h _ _ _ a1 a2 a3
end
end QS
namespace QS
open PySem PySem.Spec PyProof.Rows L2
/-! ### ints and texts: by a scan -/
def kOf : Value → Key
  | .int i _ => .inl i
  | .str x _ => .inr x
  | _ => .inl 0
def GoodK (w : World) (e : Int × Value) : Prop := keyIs (kOf e.2) e.2 = true ∧ e.1 = keyH w (kOf e.2)
theorem kOf_is {k : Key} {v : Value} (h : keyIs k v = true) : kOf v = k := by
  rcases keyIs_shape h with ⟨i, t, rfl, rfl⟩ | ⟨x, t, rfl, rfl⟩ <;> rfl
theorem scan_is {k : Key} {v : Value} (h : keyIs k v = true) : v.scannable = true := by
  rcases keyIs_shape h with ⟨i, t, rfl, rfl⟩ | ⟨x, t, rfl, rfl⟩ <;> rfl
abbrev keysOf (es : List (Int × Value)) : List Key := es.map fun e => kOf e.2
theorem good_el {P : Program} {w : World} {l : List (Int × Value)} (g : ∀ e ∈ l, GoodK w e) : ElemsOf (mixKind P w) l := fun e he =>
  ⟨⟨_, (g e he).1, (g e he).2⟩, scan_is (g e he).1⟩
theorem good_at {P : Program} {w : World} {l : List (Int × Value)} (g : ∀ e ∈ l, GoodK w e) (k : Key) : k ∈ keysOf l ↔ ∃ e ∈ l, (mixKind P w).is k e.2 = true := by
  rw [List.mem_map]
  refine ⟨fun ⟨e, he, q⟩ => ⟨e, he, ?_⟩, fun ⟨e, he, q⟩ => ⟨e, he, kOf_is q⟩⟩
  have := (g e he).1
  rw [q] at this
  exact this
/-- the object of a set of at most n keys, those of M -/
structure ScanOb (w : World) (n : Nat) (M : Key → Prop) (o : Obj) : Prop where
  ex : ∃ (es : Array (Int × Value)) (ep : Nat) (t : SetTable), o.ExactSet ∧ o.data = .set es ep t ∧ (∀ e ∈ es.toList, GoodK w e) ∧ (keysOf es.toList).Nodup ∧ (∀ k, M k ↔ k ∈ keysOf es.toList) ∧ es.size ≤ n ∧
    t.fits es.size = true ∧ Ris t.place.toList ∧ (w.params.followText "set-order" = true ∨ t.led = true)
theorem ScanOb.congr {w : World} {n m : Nat} {M M' : Key → Prop} {o : Obj} (R : ScanOb w n M o) (hn : n ≤ m) (h : ∀ k, M k ↔ M' k) : ScanOb w m M' o := by
  obtain ⟨es, ep, t, a1, a2, a3, a4, a5, a6, a7⟩ := R.ex
  exact ⟨es, ep, t, a1, a2, a3, a4, fun k => (h k).symm.trans (a5 k), Nat.le_trans a6 hn, a7⟩
theorem scan_fresh (w : World) : ScanOb w 0 (fun _ => False) (freshOb w) := by
  refine ⟨#[], 0, _, ⟨rfl, rfl, rfl⟩, rfl, (fun e he => by cases he), List.nodup_nil, (fun k => by simp [keysOf]), Nat.le_refl _, rfl, List.Pairwise.nil, ?_⟩
  show _ ∨ (!w.params.followText "set-order") = true
  cases w.params.followText "set-order"
  · exact .inr rfl
  · exact .inl rfl
theorem paired_at {α β : Type} {F : α → β → Prop} : ∀ {xs : List α} {ys : List β}, Paired F xs ys → ∀ (i : Nat) {y : β}, ys[i]? = some y → ∃ x, xs[i]? = some x ∧ F x y
  | _, _, .nil, _, _, h => by simp at h
  | _, _, .cons r _, 0, _, h => ⟨_, rfl, by rw [← Option.some.inj h]; exact r⟩
  | _, _, .cons _ t, i + 1, _, h => paired_at t i (by simpa using h)
section
variable {P : Program} {w : World} {A : Around} {E : Value → Shared → Prop} {s : Shared}

/-- the new entries are stored, and the table laid anew if it is too full -/
theorem scan_store {S : Addr} {o : Obj} {es es1 : Array (Int × Value)} {ep n : Nat} {t t1 : SetTable} {M : Key → Prop} {wd : Bool} {R : Option Bool → Shared → Prop} {g : Bool → Sem Unit}
    (hg : ∀ (b : Bool) (s1 : Shared) (Q1 : Unit → Shared → Prop), Q1 () s1 → wpAny (model P w) A (g b) Q1 E s1)
    (ho : s.heap.get? S = some o) (hex : o.ExactSet) (hd : o.data = .set es ep t) (g1 : ∀ e ∈ es1.toList, GoodK w e) (nd : (keysOf es1.toList).Nodup) (hM : ∀ k, M k ↔ k ∈ keysOf es1.toList) (hn : es1.size ≤ n) (hb : n < scanBound)
    (hf : t1.fits es1.size = true) (hr : Ris t1.place.toList) (hl : w.params.followText "set-order" = true ∨ t1.led = true)
    (h : ∀ h' o', Heap.SameBut S s.heap h' → h'.get? S = some o' → ScanOb w n M o' → R (some true) { s with heap := h' }) :
    wpAny (model P w) A (do
      storeSet S es1 t1
      if (!wd && t1.tooFull) = true then do
        g (relayAll t1 es1 (SetTable.grown es1.size)).2.2
        storeSet S (relayAll t1 es1 (SetTable.grown es1.size)).1 (relayAll t1 es1 (SetTable.grown es1.size)).2.1
        pure (some true)
      else pure (some true)) R E s := by
  refine wpAny_bind (wpAny_storeSet_of ho hd ?_ (fits_of_scanBound (Nat.lt_of_le_of_lt hn hb)))
  have o1 := store_at (es' := es1) (t' := t1) ho hd
  have b1 := Heap.SameBut.update s.heap S (Obj.putSet es1 t1)
  by_cases full : (!wd && t1.tooFull) = true
  · rw [if_pos full]
    have pm := relayAll_perm t1 es1 (SetTable.grown es1.size)
    have f2 := relayAll_fits t1 es1 (SetTable.grown es1.size)
    have r2 := relayAll_ris t1 es1 (SetTable.grown es1.size)
    have l2 := relayAll_led t1 es1 (SetTable.grown es1.size)
    revert pm f2 r2 l2
    generalize relayAll t1 es1 (SetTable.grown es1.size) = Z
    obtain ⟨es2, t2, gv⟩ := Z
    dsimp only
    intro pm f2 r2 l2
    have sz : es2.size = es1.size := by rw [← Array.length_toList, pm.length_eq, Array.length_toList]
    refine wpAny_bind (hg _ _ _ ?_)
    refine wpAny_bind (wpAny_storeSet_of o1 rfl ?_ (fits_of_scanBound (by rw [sz]; exact Nat.lt_of_le_of_lt hn hb)))
    have o2 := store_at (es' := es2) (t' := t2) o1 rfl
    refine wpAny_pure (h _ _ (b1.trans (Heap.SameBut.update _ S _)) o2 ⟨es2, _, t2, hex, rfl, fun e he => g1 e (pm.mem_iff.mp he), (pm.map fun e => kOf e.2).nodup_iff.mpr nd, fun k => (hM k).trans (pm.map fun e => kOf e.2).mem_iff.symm, by rw [sz]; exact hn, f2, r2, ?_⟩)
    rcases hl with z | z
    · exact .inl z
    · exact .inr (l2.trans z)
  · rw [if_neg full]
    exact wpAny_pure (h _ _ b1 o1 ⟨es1, _, t1, hex, rfl, g1, nd, hM, hn, hf, hr, hl⟩)

theorem scan_add {S : Addr} {o : Obj} {n : Nat} {M : Key → Prop} {k : Key} {v : Value} {Q : Bool → Shared → Prop} (hv : keyIs k v = true) (ho : s.heap.get? S = some o) (R : ScanOb w n M o) (hb : n + 1 < scanBound)
    (h : ∀ b h' o', Heap.SameBut S s.heap h' → h'.get? S = some o' → ScanOb w (n + 1) (fun j => M j ∨ j = k) o' → Q b { s with heap := h', toks := s.toks + 1 }) :
    wpAny (model P w) A (setAdd S v) Q E s := by
  obtain ⟨es, ep, t, hex, hd, g, nd, hM, hn, hf, hr, hl⟩ := R.ex
  have el : ElemsOf (mixKind P w) es.toList := good_el g
  unfold setAdd
  refine wpAny_holding ?_
  refine wpAny_bind ((mixKind P w).pyHash (k := k) hv ?_)
  unfold setAddHashed setAddHashedIn
  refine wpAny_holding (wpAny_bind (wpAny_setState_of (s := { s with toks := s.toks + 1 }) ho hd hf ?_))
  dsimp only
  rw [byScan_of (scan_is hv) (Nat.lt_of_le_of_lt hn (Nat.lt_of_succ_lt hb)) el, if_pos rfl]
  unfold setAddByScan
  refine wpAny_bind ?_
  refine wpAny_bind (wpAny_rule ?_)
  refine wpAny_bind (wpAny_setScan_of (s := { s with toks := s.toks + 1 }) (knd := mixKind P w) hv ho hd hf el ?_)
  have gw : ∀ (b : Bool) (s1 : Shared) (Q1 : Unit → Shared → Prop), Q1 () s1 → wpAny (model P w) A (match b with | true => rule "set.scan.the-table-gave-way" | false => pure ()) Q1 E s1 := fun b s1 Q1 q => by
    cases b
    · exact wpAny_pure q
    · exact wpAny_rule q
  cases fi : List.findIdx? (fun e => (mixKind P w).is k e.2) es.toList with
  | some j =>
    dsimp only
    obtain ⟨jl, pj, _⟩ := List.findIdx?_eq_some_iff_getElem.mp fi
    have mk : M k := (hM k).mpr ((good_at (P := P) g k).mpr ⟨es.toList[j], List.getElem_mem jl, pj⟩)
    refine wpAny_pure (wpAny_pure (h false s.heap o (Heap.SameBut.refl S s.heap) ho (R.congr (Nat.le_succ n) fun j => ⟨.inl, fun q => ?_⟩)))
    rcases q with q | q
    · exact q
    · rw [q]; exact mk
  | none =>
    dsimp only
    have nk : k ∉ keysOf es.toList := fun z => by
      obtain ⟨e, he, q⟩ := (good_at (P := P) g k).mp z
      rw [List.findIdx?_eq_none_iff.mp fi e he] at q
      cases q
    have pm := layNew_perm t es ((mixKind P w).hash k) v
    have f1 := layNew_fits t es ((mixKind P w).hash k) v
    have r1 := layNew_ris t es ((mixKind P w).hash k) v hr
    have l1 := layNew_led t es ((mixKind P w).hash k) v
    revert pm f1 r1 l1
    generalize layNew t es ((mixKind P w).hash k) v = Z
    obtain ⟨es1, t1, wd, gv⟩ := Z
    dsimp only
    intro pm f1 r1 l1
    rw [Array.toList_push] at pm
    have pc : es1.toList.Perm (((mixKind P w).hash k, v) :: es.toList) := pm.trans (List.perm_append_singleton _ _)
    have pk : (keysOf es1.toList).Perm (k :: keysOf es.toList) := by
      have q := pc.map fun e : Int × Value => kOf e.2
      rw [List.map_cons] at q
      dsimp only at q
      rw [kOf_is hv] at q
      exact q
    have g1 : ∀ e ∈ es1.toList, GoodK w e := fun e he => by
      rcases List.mem_cons.mp (pc.mem_iff.mp he) with z | z
      · rw [z]
        show keyIs (kOf v) v = true ∧ (mixKind P w).hash k = keyH w (kOf v)
        rw [kOf_is hv]
        exact ⟨hv, rfl⟩
      · exact g e z
    have sz : es1.size = es.size + 1 := by rw [← Array.length_toList, pc.length_eq, List.length_cons, Array.length_toList]
    have m1 : ∀ j, (M j ∨ j = k) ↔ j ∈ keysOf es1.toList := fun j => by
      rw [pk.mem_iff, List.mem_cons, hM j]
      exact Or.comm
    have ld : w.params.followText "set-order" = true ∨ t1.led = true := by
      rcases hl with z | z
      · exact .inl z
      · exact .inr (l1.trans z)
    refine wpAny_bind (gw _ _ _ ?_)
    have fin : ∀ t2 : SetTable, t2.fits es1.size = true → Ris t2.place.toList → (w.params.followText "set-order" = true ∨ t2.led = true) → ∀ wd' : Bool, wpAny (model P w) A (do
        storeSet S es1 t2
        if (!wd' && t2.tooFull) = true then do
          (match (relayAll t2 es1 (SetTable.grown es1.size)).2.2 with | true => rule "set.scan.the-table-gave-way" | false => pure ())
          storeSet S (relayAll t2 es1 (SetTable.grown es1.size)).1 (relayAll t2 es1 (SetTable.grown es1.size)).2.1
          pure (some true)
        else pure (some true)) (fun r s' => wpAny (model P w) A (match r with | some added => pure added | none => do return ← setAddHashedIn S v ((mixKind P w).hash k) 99999) Q E s') E { s with toks := s.toks + 1 } := fun t2 q1 q2 q3 wd' =>
      scan_store (s := { s with toks := s.toks + 1 }) (g := fun b => match b with | true => rule "set.scan.the-table-gave-way" | false => pure ()) (n := n + 1) gw ho hex hd g1 (pk.nodup_iff.mpr (List.nodup_cons.mpr ⟨nk, nd⟩)) m1 (by omega) hb q1 q2 q3
        fun h' o' sb ho' R' => wpAny_pure (h true h' o' sb ho' R')
    by_cases pl : t1.plain = true
    · rw [if_pos pl]
      refine wpAny_bind ?_
      rw [hashByValue_scannable 8 (scan_is hv)]
      refine wpAny_pure ?_
      cases plainKind v
      · exact fin _ (SetTable.fits_plain_off f1) r1 ld wd
      · exact fin _ f1 r1 ld wd
    · rw [if_neg pl]
      refine wpAny_bind (wpAny_pure ?_)
      exact fin _ f1 r1 ld wd
/-- a list of ints and texts: its set -/
theorem adds_scan {h0 : Heap} {items : Array Value} {u : Nat} {ks : List Key} (hi : Paired (fun k v => keyIs k v = true) ks items.toList) (hl : ks.length + 1 < scanBound) :
    Adds P w h0 items u (fun i o => ScanOb w i (fun k => k ∈ ks.take i) o) := by
  intro i v A E s S o Q hv _ _ _ ho c h
  have hv' : items.toList[i]? = some v := by rw [Array.getElem?_toList]; exact hv
  obtain ⟨k, hk, kv⟩ := paired_at hi i hv'
  have il : i < ks.length := (List.getElem?_eq_some_iff.mp hk).1
  refine scan_add kv ho c (by omega) fun b h' o' sb ho' R => h b h' _ o' (Nat.le_succ _) sb ho' (R.congr (Nat.le_refl _) fun j => ?_)
  rw [List.take_succ, hk, List.mem_append]
  simp
end
end QS
namespace QS
open PySem PySem.Spec PyProof.Rows L2
/-! ### tuples of ints and texts, all different: by the table -/
abbrev TupK (P : Program) (w : World) (h : Heap) (k : List Key) (a : Addr) : Prop := IsTupleKey (mixKind P w) h k a
abbrev hashK (P : Program) (w : World) (k : List Key) : Int := tupleKeyHash (mixKind P w) k
section
variable {P : Program} {w : World} {A : Around} {E : Value → Shared → Prop} {s : Shared}

theorem shapes {k : List Key} {vs : List Value} (h : ItemsAre (mixKind P w) k vs) : ∀ v ∈ vs, ∃ q, keyIs q v = true := by
  induction h with
  | nil => intro v hv; cases hv
  | cons h1 _ ih =>
    intro v hv
    rcases List.mem_cons.mp hv with e | e
    · rw [e]; exact ⟨_, h1⟩
    · exact ih v e
theorem noClass (n : Nat) {q : Key} {v : Value} (h : keyIs q v = true) : ofAClassStatement n v = pure false := by
  rcases keyIs_shape h with ⟨i, t, rfl, rfl⟩ | ⟨x, t, rfl, rfl⟩ <;> cases n <;> rfl
theorem valHash (n : Nat) {q : Key} {v : Value} (h : keyIs q v = true) : ∃ b, hashByValue n v = pure b := by
  rcases keyIs_shape h with ⟨i, t, rfl, rfl⟩ | ⟨x, t, rfl, rfl⟩ <;> cases n <;> exact ⟨_, rfl⟩
/-- a tuple of ints and texts is no class's statement -/
theorem tup_noClass {k : List Key} {b : Addr} {Q : Bool → Shared → Prop} (hk : TupK P w s.heap k b) (h : Q false s) : wpAny (model P w) A (ofAClassStatement 8 (.ref b)) Q E s := by
  have hT := hk.typeIs
  obtain ⟨o, its, n, ho, _, hd, hi⟩ := hk
  unfold ofAClassStatement
  refine wpAny_bind (wpAny_typeOf hT ?_)
  dsimp only
  simp only [show (("tuple" : String) == "tuple") = true by decide, if_true, Bool.not_true, Bool.false_eq_true, if_false]
  try refine wpAny_bind (wpAny_pure ?_)
  try simp only [Bool.not_true, Bool.false_eq_true, if_false]
  show wpAny _ _ (seqItems? (.ref b) >>= _) _ _ s
  refine wpAny_bind (wpAny_seqItems ho hd ?_)
  dsimp only
  refine wpAny_bind ?_
  show wpAny _ _ (forIn its _ _) _ _ s
  rw [← Array.forIn_toList]
  refine wpAny_forIn_list _ (fun left r s' => r.1 = none ∧ s' = s ∧ ∀ v ∈ left, ∃ q, keyIs q v = true) _ ?_ ?_ _ _ ⟨rfl, rfl, shapes hi⟩
  · rintro v left r s' ⟨hr, rfl, al⟩
    obtain ⟨q, hq⟩ := al v List.mem_cons_self
    rw [noClass _ hq]
    refine wpAny_bind (wpAny_pure ?_)
    simp only [Bool.false_eq_true, if_false]
    exact wpAny_pure ⟨rfl, rfl, fun x hx => al x (List.mem_cons_of_mem _ hx)⟩
  · rintro ⟨r1, r2⟩ s' ⟨hr, rfl, _⟩
    simp only at hr
    subst hr
    exact wpAny_pure h
/-- whether its hash is known by the values alone: either -/
theorem tup_hashBy {k : List Key} {b : Addr} {Q : Bool → Shared → Prop} (hk : TupK P w s.heap k b) (h : ∀ r, Q r s) : wpAny (model P w) A (hashByValue 8 (.ref b)) Q E s := by
  have hT := hk.typeIs
  obtain ⟨o, its, n, ho, _, hd, hi⟩ := hk
  unfold hashByValue
  refine wpAny_bind (wpAny_specialOf hT F.slot_tuple_hash.lookup ?_)
  show wpAny _ _ (seqItems? (.ref b) >>= _) _ _ s
  refine wpAny_bind (wpAny_seqItems ho hd ?_)
  refine wpAny_bind ?_
  show wpAny _ _ (forIn its _ _) _ _ s
  rw [← Array.forIn_toList]
  refine wpAny_forIn_list _ (fun left r s' => r.1 = none ∧ s' = s ∧ ∀ v ∈ left, ∃ q, keyIs q v = true) _ ?_ ?_ _ _ ⟨rfl, rfl, shapes hi⟩
  · rintro v left r s' ⟨hr, rfl, al⟩
    obtain ⟨q, hq⟩ := al v List.mem_cons_self
    obtain ⟨c, hc⟩ := valHash 7 hq
    rw [hc]
    refine wpAny_bind (wpAny_pure ?_)
    cases c
    · simp only [Bool.not_false, if_true]
      exact wpAny_pure (wpAny_pure (h false))
    · simp only [Bool.not_true, Bool.false_eq_true, if_false]
      exact wpAny_pure ⟨rfl, rfl, fun x hx => al x (List.mem_cons_of_mem _ hx)⟩
  · rintro ⟨r1, r2⟩ s' ⟨hr, rfl, _⟩
    simp only at hr
    subst hr
    exact wpAny_pure (h true)
/-- a search for it among such tuples cannot be seen -/
theorem tup_unseen {k : List Key} {b : Addr} {Q : Bool → Shared → Prop} (hk : TupK P w s.heap k b) {ys : List Value} (hy : ∀ y ∈ ys, ∃ k' c, y = Value.ref c ∧ TupK P w s.heap k' c) (h : Q false s) :
    wpAny (model P w) A (searchCouldBeSeen (.ref b) ys) Q E s := by
  unfold searchCouldBeSeen
  refine wpAny_bind (wpAny_forIn_list _ (fun left r s' => r.1 = none ∧ s' = s ∧ ∀ y ∈ left, ∃ k' c, y = Value.ref c ∧ TupK P w s.heap k' c) _ ?_ ?_ _ _ ⟨rfl, rfl, hy⟩)
  · rintro v left r s' ⟨hr, rfl, al⟩
    obtain ⟨k', c, rfl, hc⟩ := al v List.mem_cons_self
    have al' : ∀ y ∈ left, ∃ k' c, y = Value.ref c ∧ TupK P w s'.heap k' c := fun u hu => al u (List.mem_cons_of_mem _ hu)
    dsimp only
    by_cases same : (b == c || (carriedByValue (.ref b) && carriedByValue (.ref c))) = true
    · exact wp_if_pos same (wpAny_pure ⟨rfl, rfl, al'⟩)
    · refine wp_if_neg same (wpAny_bind (wpAny_eqIsQuiet_tuple hk ?_))
      simp only [Bool.not_true, Bool.false_eq_true, if_false]
      refine wpAny_bind (wpAny_eqIsQuiet_tuple hc ?_)
      simp only [Bool.not_true, Bool.false_eq_true, if_false]
      refine wpAny_bind (tup_noClass hk ?_)
      simp only [Bool.false_eq_true, if_false]
      refine wpAny_bind (tup_noClass hc ?_)
      simp only [Bool.false_eq_true, if_false]
      exact wpAny_pure ⟨rfl, rfl, al'⟩
  · rintro ⟨r1, r2⟩ s' ⟨hr, rfl, _⟩
    simp only at hr
    subst hr
    exact wpAny_pure h

/-- the object of a set of tuples: the rows L, addresses and keys, all keys different -/
structure TupOb (P : Program) (w : World) (L : List (Addr × List Key)) (o : Obj) (es : Array (Int × Value)) (ep : Nat) (t : SetTable) : Prop where
  ex : o.ExactSet
  dt : o.data = .set es ep t
  rows : es.toList = L.map fun p => (hashK P w p.2, Value.ref p.1)
  tab : TabOk t (L.map fun p => hashK P w p.2)
  led : w.params.followText "set-order" = true ∨ t.led = true
  room : L.length * 5 < t.mask * 3
  few : L.length < 64
variable {L : List (Addr × List Key)} {o : Obj} {es : Array (Int × Value)} {ep : Nat} {t : SetTable} {S x : Addr} {k : List Key}
theorem TupOb.size (R : TupOb P w L o es ep t) : es.size = L.length := by
  rw [← Array.length_toList, R.rows, List.length_map]
theorem TupOb.fits (R : TupOb P w L o es ep t) : t.fits es.size = true := by
  have a := R.tab.sz
  rw [List.length_map] at a
  have b := R.room
  have c := R.size
  simp only [SetTable.fits, SetTable.fill, R.tab.dm, Bool.and_eq_true, beq_iff_eq, decide_eq_true_eq]
  refine ⟨by omega, ?_⟩
  show t.place.size + 0 ≤ t.mask
  omega
theorem TupOb.row (R : TupOb P w L o es ep t) {i : Nat} {p : Addr × List Key} (h : L[i]? = some p) : es[i]? = some (hashK P w p.2, Value.ref p.1) := by
  rw [← Array.getElem?_toList, R.rows, List.getElem?_map, h]
  rfl
/-- the c-th step of a key's way -/
abbrev stepAt (t : SetTable) (h : Int) (c : Nat) : SetTable.Probe := nth t.mask (runAt t.mask (SetTable.bits h % (t.mask + 1)) (SetTable.bits h)) c
theorem step_add (t : SetTable) (h : Int) (c q : Nat) : nth t.mask (stepAt t h c) q = stepAt t h (c + q) := (nth_add t.mask c _ q).symm
theorem adv_dummy (m : Nat) : ∀ (n : Nat) (p : SetTable.Probe), p.dummy = none → (nth m p n).dummy = none
  | 0, _, h => h
  | n + 1, p, h => adv_dummy m n (adv m p) (by unfold adv; split <;> exact h)

/-- a key that is not there is not found: the first empty slot of its way -/
theorem seek (R : TupOb P w L o es ep t) (ho : s.heap.get? S = some o) (al : ∀ p ∈ L, TupK P w s.heap p.2 p.1) (hx : TupK P w s.heap k x) (hk : ∀ p ∈ L, p.2 ≠ k) (hu : A.units < cLine) {K : Nat}
    (hK : way t.mask (hashK P w k) K ∉ t.place.toList) (hb : ∀ c, c < K → way t.mask (hashK P w k) c ∈ t.place.toList) (hKf : K < 10 * SetTable.turns t.mask) {Q : SetFound → Shared → Prop} (h : Q (.free (way t.mask (hashK P w k) K) false) s) :
    ∀ (f c : Nat) (stand : Option SetTable.Probe), stand.getD (t.probeStart (hashK P w k)) = stepAt t (hashK P w k) c → c ≤ K → K - c < f →
      wpAny (model P w) A (setSearchFrom S (.ref x) (hashK P w k) true f stand) Q E s := by
  intro f
  induction f with
  | zero => intro c stand _ _ hf; exact absurd hf (Nat.not_lt_zero _)
  | succ f ih =>
    intro c stand hst hc hf
    rw [setSearchFrom_succ]
    refine wpAny_bind (wpAny_setState_of ho R.dt R.fits ?_)
    dsimp only
    refine wp_if_neg (by unfold SetTable.gaveWay; rw [mask_odd R.tab.mok]; decide) ?_
    try refine wpAny_bind (wpAny_pure ?_)
    have jAt : ∀ q, (nth t.mask (stepAt t (hashK P w k) c) q).j = way t.mask (hashK P w k) (c + q) := fun q => congrArg SetTable.Probe.j (step_add t _ c q)
    have sp := go_spec t R.tab.ris R.tab.dm (fun i => (es[i]?.map (·.1)).getD 0) (hashK P w k) (10 * SetTable.turns t.mask) (K - c) (stepAt t (hashK P w k) c) (adv_dummy _ _ _ rfl) (by omega)
      (fun q hq => by rw [jAt]; exact hb _ (by omega)) (by rw [jAt, Nat.add_sub_cancel' hc]; exact hK)
    rcases sp with ⟨q, i, hq, hi, _, _, hp⟩ | ⟨_, hp⟩
    · have hp' : t.probe (fun i => (es[i]?.map (·.1)).getD 0) (hashK P w k) (stand.getD (t.probeStart (hashK P w k))) = some (.candidate (way t.mask (hashK P w k) (c + q)) i (stepAt t (hashK P w k) (c + (q + 1)))) := by
        rw [hst, ← jAt, ← step_add]
        exact hp
      rw [hp']
      dsimp only
      rw [jAt] at hi
      have il : i < L.length := by
        have a := (List.getElem?_eq_some_iff.mp hi).1
        have b := R.tab.sz
        rw [Array.length_toList] at a
        rw [List.length_map] at b
        omega
      obtain ⟨p, hpL⟩ : ∃ p, L[i]? = some p := ⟨_, List.getElem?_eq_getElem il⟩
      have pm : p ∈ L := List.mem_of_getElem? hpL
      have ne : decide (p.2 = k) = false := decide_eq_false (hk p pm)
      have on : wpAny (model P w) A (searchRest S (.ref x) (hashK P w k) true f es t (way t.mask (hashK P w k) (c + q)) i (stepAt t (hashK P w k) (c + (q + 1)))) Q E s := by
        unfold searchRest
        rw [R.row hpL]
        dsimp only
        refine wpAny_bind (wpAny_holding (wpAny_eqBool_tuple hu (al p pm) hx ?_))
        refine wpAny_bind (wpAny_setState_of ho R.dt R.fits ?_)
        dsimp only
        rw [ne]
        refine wp_if_neg (by decide) ?_
        try refine wpAny_bind (wpAny_pure ?_)
        rw [sameMem]
        dsimp only
        simp only [if_true, slot_live R.tab.ris hi, R.row hpL]
        refine wpAny_bind (wpAny_isSame_ref_self (wpAny_bind (wpAny_pure ?_)))
        simp only [if_true]
        refine wp_if_neg (by decide) ?_
        exact ih (c + (q + 1)) _ rfl (by omega) (by omega)
      by_cases ld : t.led = true
      · refine wp_if_neg (by simp [ld]) ?_
        try refine wpAny_bind (wpAny_pure ?_)
        exact on
      · refine wp_if_pos (by simp [ld]) (wpAny_bind (tup_unseen hx (fun y hy => ?_) ?_))
        · obtain ⟨e, he, rfl⟩ := List.mem_map.mp hy
          have he2 : e ∈ es.toList := by
            have : e ∈ es ∧ e.1 = hashK P w k := by simpa using he
            simpa using this.1
          rw [R.rows] at he2
          obtain ⟨p2, hp2, rfl⟩ := List.mem_map.mp he2
          exact ⟨p2.2, p2.1, rfl, al p2 hp2⟩
        · refine wp_if_neg (by decide) ?_
          try refine wpAny_bind (wpAny_pure ?_)
          exact on
    · have hp' : t.probe (fun i => (es[i]?.map (·.1)).getD 0) (hashK P w k) (stand.getD (t.probeStart (hashK P w k))) = some (.empty (way t.mask (hashK P w k) K) none) := by
        rw [hst, show way t.mask (hashK P w k) K = (nth t.mask (stepAt t (hashK P w k) c) (K - c)).j by rw [jAt, Nat.add_sub_cancel' hc]]
        exact hp
      rw [hp']
      exact wpAny_pure h
end
end QS
namespace QS
open PySem PySem.Spec PyProof.Rows L2
section
variable {P : Program} {w : World} {A : Around} {E : Value → Shared → Prop} {s : Shared}
variable {L : List (Addr × List Key)} {o : Obj} {es : Array (Int × Value)} {ep : Nat} {t : SetTable} {S x : Addr} {k : List Key}
abbrev rowK (P : Program) (w : World) (p : Addr × List Key) : Int × Value := (hashK P w p.2, Value.ref p.1)
/-- rows taken in another order -/
theorem reorder {order : Array Nat} (hr : es.toList = L.map (rowK P w)) (hp : order.toList.Perm (List.range L.length)) :
    ∃ L2 : List (Addr × List Key), (order.filterMap (es[·]?)).toList = L2.map (rowK P w) ∧ L2.Perm L ∧ (L2.map fun p => hashK P w p.2) = order.toList.map fun i => (es.map (·.1)).getD i 0 := by
  have at_ : ∀ i, i < L.length → es[i]? = some (rowK P w (L.getD i (0, []))) := fun i h => by
    rw [← Array.getElem?_toList, hr, List.getElem?_map, List.getElem?_eq_getElem h, List.getD_eq_getElem?_getD, List.getElem?_eq_getElem h]
    rfl
  have go : ∀ l : List Nat, (∀ i ∈ l, i < L.length) → l.filterMap (fun i => es[i]?) = (l.map fun i => L.getD i (0, [])).map (rowK P w) ∧
      ((l.map fun i => L.getD i (0, [])).map fun p => hashK P w p.2) = l.map fun i => (es.map (·.1)).getD i 0 := by
    intro l
    induction l with
    | nil => intro _; exact ⟨rfl, rfl⟩
    | cons i l ih =>
      intro hl
      obtain ⟨e1, e2⟩ := ih fun j hj => hl j (List.mem_cons_of_mem _ hj)
      have hi := at_ i (hl i List.mem_cons_self)
      refine ⟨?_, ?_⟩
      · rw [List.filterMap_cons_some hi, e1]
        rfl
      · rw [List.map_cons, List.map_cons, List.map_cons, e2]
        have : (es.map (·.1))[i]? = some (hashK P w (L.getD i (0, [])).2) := by rw [Array.getElem?_map, hi]; rfl
        rw [Array.getD_eq_getD_getElem?, this]
        rfl
  obtain ⟨e1, e2⟩ := go order.toList fun i hi => List.mem_range.mp (hp.mem_iff.mp hi)
  refine ⟨order.toList.map fun i => L.getD i (0, []), by rw [Array.toList_filterMap]; exact e1, ?_, e2⟩
  refine (hp.map _).trans ?_
  have : (List.range L.length).map (fun i => L.getD i (0, [])) = L := by
    refine List.ext_getElem (by simp) fun i h1 h2 => ?_
    rw [List.getElem_map, List.getElem_range, List.getD_eq_getElem?_getD, List.getElem?_eq_getElem h2]
    rfl
  rw [this]

/-- the table laid anew -/
theorem relay (ho : s.heap.get? S = some o) (hex : o.ExactSet) (hd : o.data = .set es ep t) (hr : es.toList = L.map (rowK P w)) (T : TabOk t (L.map fun p => hashK P w p.2)) (hl : w.params.followText "set-order" = true ∨ t.led = true) (few : L.length < 64)
    {wanted M : Nat} (hw : SetTable.sizeAbove wanted = M + 1) (hM : MaskOk M) (hn : L.length * 5 < M * 3) (hfit : L.length ≤ t.mask) {Q : Unit → Shared → Prop}
    (h : ∀ h' o' L' es' ep' t', Heap.SameBut S s.heap h' → h'.get? S = some o' → TupOb P w L' o' es' ep' t' → L'.Perm L → Q () { s with heap := h' }) : wpAny (model P w) A (setRelay S wanted) Q E s := by
  have sz : es.size = L.length := by rw [← Array.length_toList, hr, List.length_map]
  have M128 : M ≤ 127 := by rcases hM with e | e | e <;> omega
  have fits : t.fits es.size = true := by
    have a := T.sz
    rw [List.length_map] at a
    simp only [SetTable.fits, SetTable.fill, T.dm, Bool.and_eq_true, beq_iff_eq, decide_eq_true_eq]
    refine ⟨by omega, ?_⟩
    show t.place.size + 0 ≤ t.mask
    omega
  obtain ⟨t', order, e, hp, T', em, el, _, ed⟩ := relaid_ok t (hs := es.map (·.1)) (wanted := wanted) (M := M) (by omega) hM (by rw [Array.size_map, sz]; omega)
  rw [Array.size_map, sz] at hp
  obtain ⟨L2, r1, r2, r3⟩ := reorder (P := P) (w := w) hr hp
  rw [← r3] at T'
  have sz2 : (order.filterMap (es[·]?)).size = es.size := by rw [← Array.length_toList, r1, List.length_map, r2.length_eq, sz]
  rw [setRelay_eq]
  refine wpAny_bind (wpAny_setState_of ho hd fits ?_)
  dsimp only
  refine wp_if_neg (by rw [sizeLine_eq]; omega) ?_
  try refine wpAny_bind (wpAny_pure ?_)
  rw [e]
  dsimp only
  refine wpAny_bind (wp_if_neg (by rw [sz2]; simp) ?_)
  try refine wpAny_bind (wpAny_pure ?_)
  refine wpAny_pure ?_
  dsimp only
  refine wpAny_storeSet_of ho hd ?_ (by rw [sz2, sz, sizeLine_eq]; omega)
  refine h _ _ L2 _ _ t' (Heap.SameBut.update ..) (store_at ho hd) ⟨hex, rfl, r1, T', ?_, by rw [r2.length_eq, em]; exact hn, by rw [r2.length_eq]; exact few⟩ r2
  rcases hl with z | z
  · exact .inl z
  · exact .inr (el.trans z)

/-- a tuple of another key goes in -/
theorem tup_add (R : TupOb P w L o es ep t) (ho : s.heap.get? S = some o) (al : ∀ p ∈ L, TupK P w s.heap p.2 p.1) (hx : TupK P w s.heap k x) (hk : ∀ p ∈ L, p.2 ≠ k) (hu : A.units < cLine) (hf : L.length + 1 < 64) {Q : Bool → Shared → Prop}
    (h : ∀ h' o' L' es' ep' t', Heap.SameBut S s.heap h' → h'.get? S = some o' → TupOb P w L' o' es' ep' t' → L'.Perm ((x, k) :: L) → Q true { s with heap := h', toks := s.toks + (k.length + 1) }) :
    wpAny (model P w) A (setAdd S (.ref x)) Q E s := by
  unfold setAdd
  refine wpAny_holding (wpAny_bind (wpAny_pyHash_tuple hu hx ?_))
  have h' := h
  have hroom := R.room
  have mask63 : 10 * SetTable.turns t.mask ≤ 1420 := by
    unfold SetTable.turns
    rcases R.tab.mok with e | e | e <;> omega
  unfold setAddHashed
  refine wpAny_holding ?_
  rw [show (100000 : Nat) = 99999 + 1 from rfl, setAddHashedIn_succ]
  refine wpAny_bind (wpAny_setState_of (s := { s with toks := s.toks + (k.length + 1) }) ho R.dt R.fits ?_)
  dsimp only
  refine wp_if_neg (by simp [byScan, Value.scannable]) ?_
  try refine wpAny_bind (wpAny_pure ?_)
  obtain ⟨K, hKf, hK, hb⟩ := R.tab.first (by rw [List.length_map]; omega) (hashK P w k)
  refine wpAny_bind ?_
  unfold setSearch
  refine seek (s := { s with toks := s.toks + (k.length + 1) }) R ho al hx hk hu hK hb hKf ?_ 100000 0 none rfl (Nat.zero_le _) (by omega)
  dsimp only
  refine wpAny_bind (wpAny_setState_of (s := { s with toks := s.toks + (k.length + 1) }) ho R.dt R.fits ?_)
  dsimp only
  obtain ⟨q1, q2, q3, q4, q5, q6, q7, q8, q9⟩ := R.tab.put hK hb
  revert q1 q3 q4 q5 q6 q9
  generalize t.put (way t.mask (hashK P w k) K) = pt
  obtain ⟨t1, p⟩ := pt
  dsimp only
  intro q1 q3 q4 q5 q6 q9
  subst q1
  have ins : (SetTable.insertAt es (SetTable.below t.place (way t.mask (hashK P w k) K)) (hashK P w k, Value.ref x)).toList = (L.take (SetTable.below t.place (way t.mask (hashK P w k) K)) ++ (x, k) :: L.drop (SetTable.below t.place (way t.mask (hashK P w k) K))).map (rowK P w) := by
    rw [SetTable.toList_insertAt, R.rows, List.map_append, List.map_cons, List.map_take, List.map_drop]
  have tab1 : TabOk t1 ((L.take (SetTable.below t.place (way t.mask (hashK P w k) K)) ++ (x, k) :: L.drop (SetTable.below t.place (way t.mask (hashK P w k) K))).map fun p => hashK P w p.2) := by
    rw [List.map_append, List.map_cons, List.map_take, List.map_drop]
    exact q3
  revert ins tab1
  generalize SetTable.below t.place (way t.mask (hashK P w k) K) = p
  generalize SetTable.insertAt es p (hashK P w k, Value.ref x) = es1
  have pm := put_perm L p (x, k)
  generalize L.take p ++ (x, k) :: L.drop p = L1 at pm
  intro ins tab1
  have len1 : L1.length = L.length + 1 := pm.length_eq
  have sz1 : es1.size = L.length + 1 := by rw [← Array.length_toList, ins, List.length_map, len1]
  have led1 : w.params.followText "set-order" = true ∨ t1.led = true := by rw [q5]; exact R.led
  -- whatever is said of the table's being plain
  have rest : ∀ t2 : SetTable, TabOk t2 (L1.map fun p => hashK P w p.2) → t2.led = t1.led → t2.mask = t1.mask → t2.tooFull = t1.tooFull → wpAny (model P w) A (do
      storeSet S es1 t2
      if (!false && t2.tooFull) = true then setRelay S (SetTable.grown (es.size + 1))
      return true) Q E { s with toks := s.toks + (k.length + 1) } := fun t2 T2 l2 m2 f2 => by
    refine wpAny_bind (wpAny_storeSet_of (s := { s with toks := s.toks + (k.length + 1) }) ho R.dt ?_ (by rw [sz1, sizeLine_eq]; omega))
    have sb := Heap.SameBut.update s.heap S (Obj.putSet es1 t2)
    have ho1 := store_at (es' := es1) (t' := t2) ho R.dt
    have ld2 : w.params.followText "set-order" = true ∨ t2.led = true := by rw [l2]; exact led1
    by_cases full : t1.tooFull = true
    · have big : t1.mask * 3 ≤ (L.length + 1) * 5 := by
        have z := full
        unfold SetTable.tooFull at z
        rw [decide_eq_true_eq, q9, List.length_map] at z
        exact z
      first
        | (refine wpAny_bind ?_; refine wp_if_pos (by rw [f2, full]; rfl) ?_)
        | (refine wp_if_pos (by rw [f2, full]; rfl) ?_; refine wpAny_bind ?_)
      rw [R.size]
      have two : (t.mask = 7 ∧ L.length = 4) ∨ (t.mask = 31 ∧ L.length = 18) := by
        rcases R.tab.mok with e | e | e
        · left; rw [q4, e] at big; rw [e] at hroom; exact ⟨e, by omega⟩
        · right; rw [q4, e] at big; rw [e] at hroom; exact ⟨e, by omega⟩
        · exfalso; rw [q4, e] at big; omega
      have go : ∀ M, SetTable.sizeAbove (SetTable.grown (L.length + 1)) = M + 1 → MaskOk M → (L.length + 1) * 5 < M * 3 →
          wpAny (model P w) A (setRelay S (SetTable.grown (L.length + 1))) (fun _ s' => wpAny (model P w) A (pure true) Q E s') E { s with heap := s.heap.update S (Obj.putSet es1 t2), toks := s.toks + (k.length + 1) } := fun M a1 a2 a3 =>
        relay (s := { s with heap := s.heap.update S (Obj.putSet es1 t2), toks := s.toks + (k.length + 1) }) ho1 R.ex rfl ins T2 ld2 (by rw [len1]; exact hf) a1 a2 (by rw [len1]; exact a3) (by rw [len1, m2, q4]; rcases two with ⟨e, _⟩ | ⟨e, _⟩ <;> omega)
          fun h2 o2 L2 es2 ep2 t3 sb2 ho2 R2 pm2 => wpAny_pure (h h2 o2 L2 es2 ep2 t3 (sb.trans sb2) ho2 R2 (pm2.trans pm))
      rcases two with ⟨_, e⟩ | ⟨_, e⟩
      · exact go 31 (by rw [e]; exact size_20) (.inr (.inl rfl)) (by omega)
      · exact go 127 (by rw [e]; exact size_76) (.inr (.inr rfl)) (by omega)
    · have nf : ¬ (!false && t2.tooFull) = true := by rw [f2]; simpa using full
      first
        | refine wp_if_neg nf ?_
        | (refine wpAny_bind ?_; refine wp_if_neg nf ?_; refine wpAny_pure ?_)
      refine wpAny_pure (h _ _ L1 es1 (ep + 1) t2 sb ho1 ⟨R.ex, rfl, ins, T2, ld2, ?_, by rw [len1]; exact hf⟩ pm)
      have z := full
      unfold SetTable.tooFull at z
      rw [decide_eq_true_eq, q9, List.length_map] at z
      rw [len1, m2]
      omega
  have off : TabOk { t1 with plain := false } (L1.map fun p => hashK P w p.2) := ⟨tab1.ris, tab1.dm, tab1.sz, tab1.mok, tab1.bd, tab1.reach⟩
  by_cases pl : t1.plain = true
  · first
      | (refine wpAny_bind ?_; refine wp_if_pos pl ?_; refine tup_hashBy (s := { s with toks := s.toks + (k.length + 1) }) hx fun r => ?_)
      | refine wp_if_pos pl (wpAny_bind (tup_hashBy (s := { s with toks := s.toks + (k.length + 1) }) hx fun r => ?_))
    cases r
    · exact rest _ off rfl rfl rfl
    · exact rest _ tab1 rfl rfl rfl
  · first
      | (refine wpAny_bind ?_; refine wp_if_neg pl ?_; refine wpAny_pure ?_)
      | refine wp_if_neg pl (wpAny_bind (wpAny_pure ?_))
    exact rest _ tab1 rfl rfl rfl
end
end QS
namespace QS
open PySem PySem.Spec PyProof.Rows L2 PyProof.Rows.G
section
variable {P : Program} {w : World} {A : Around} {E : Value → Shared → Prop} {s : Shared}
/-- a sort's promise: its outcome is Ok -/
def Sorts (P : Program) (w : World) (h0 : Heap) (all : List Value) (Ok : List Value → Prop) : Prop :=
  ∀ (A : Around) (E : Value → Shared → Prop) (s1 : Shared) (l : Addr) (vs : List Value) (R : PySem.Fin → Shared → Prop), vs.Perm all → (∀ b x, h0.get? b = some x → s1.heap.get? b = some x) →
    s1.heap.get? l = some (seqObj "list" vs.toArray 0) → (∀ out : Array Value, Ok out.toList → R (.done (.ret .none)) { s1 with heap := sortedHeap s1.heap l vs out }) →
    wpAny (model P w) A (Builtin.«list.sort» ⟨[.ref l], []⟩) R E s1
/-- sorted(a set) -/
theorem sorted_of {a : Addr} {o : Obj} {es : Array (Int × Value)} {ep : Nat} {t : SetTable} {Ok : List Value → Prop} {Q : Value → Shared → Prop} (hh : A.handled = none) (ho : s.heap.get? a = some o) (hex : o.ExactSet) (hd : o.data = .set es ep t)
    (hf : t.fits es.size = true) (few : es.size < 64) (r : Ris t.place.toList) (hl : w.params.followText "set-order" = true ∨ t.led = true) (so : Sorts P w s.heap (es.toList.map (·.2)) Ok)
    (hQ : ∀ s' p (out : Array Value) (c : Nat), (∀ b x, s.heap.get? b = some x → s'.heap.get? b = some x) → s'.gens = s.gens → s'.os = s.os → s.heap.objs.size ≤ p → s'.heap.get? p = some (seqObj "list" out c) →
      Ok out.toList → Q (.ref p) s') : wpAny (model P w) A (call (.builtin "sorted") [.ref a]) Q E s := by
  refine Calls.call_function_entry kind_sorted plain_sorted entry_sorted (args_sorted1 _) ?_
  unfold Builtin.«sorted»
  refine wpAny_bind (m := checkCount "sorted" 1 1 _) (wpAny_pure ?_)
  refine wpAny_bind (collect_set (A := A.in1) hh ⟨o, ho, hex.1, hd⟩ hf (by unfold scanBound; omega) r hl fun s1 vs k1 z1 g1 o1 pm => ?_)
  have vl : vs.length = es.size := by rw [pm.length_eq, List.length_map, Array.length_toList]
  refine wpAny_bind (wpAny_newList ?_ (by rw [vl, sizeLine_eq]; omega))
  have ol : (s1.heap.push (seqObj "list" vs.toArray 0)).get? s1.heap.objs.size = some (seqObj "list" vs.toArray 0) := Heap.get?_push_size _ rfl
  refine wpAny_bind (wpAny_holding (wpAny_call_entry slot_list_sort ⟨_, ol, rfl⟩ entry_list_sort
    (so _ _ { s1 with heap := s1.heap.push (seqObj "list" vs.toArray 0) } _ vs _ pm (fun b x e => Heap.get?_push_of_some _ (k1 b x e)) ol fun out ok => ⟨_, rfl, ?_⟩) (args_list_sort _)))
  obtain ⟨c, hc⟩ := sortedHeap_at (vs := vs) (out := out) ol
  refine wpAny_pure ⟨_, rfl, hQ _ s1.heap.objs.size out c (fun b x e => ?_) g1 o1 z1 hc ok⟩
  have q := k1 b x e
  have lt := Heap.lt_size q
  show (sortedHeap (s1.heap.push (seqObj "list" vs.toArray 0)) s1.heap.objs.size vs out).get? b = some x
  rw [sortedHeap_old (Nat.ne_of_lt lt) (by rw [size_push']; exact Nat.lt_succ_of_lt lt)]
  exact Heap.get?_push_of_some _ q
/-- texts -/
theorem sorts_texts {h0 : Heap} {all : List Value} {xs : List Str} (hx : StrsAre all xs) (few : all.length < 64) : Sorts P w h0 all (fun out => ∃ ys, StrsAre out ys ∧ ys.Perm xs ∧ sortedS ys = true) := by
  intro A E s1 l vs R pm _ ol h
  obtain ⟨ws, hw, pw⟩ : ∃ ws, StrsAre vs ws ∧ ws.Perm xs := by
    have e := strsAre_map vs fun v hv => hx.all v (pm.mem_iff.mp hv)
    refine ⟨_, e, ?_⟩
    rw [← hx.strs]
    exact pm.map strOf
  refine list_sort_treeKAny strKind_oneLt ol hw.keysOf (fun v1 v2 rest e => keyKind_strs (by rw [← e]; exact hw)) (by rw [pm.length_eq, sizeLine_eq]; omega) fun st hp hs => ?_
  obtain ⟨ys, h1, h2, h3⟩ := sorted_out_str hw hp hs
  exact h _ ⟨ys, h1, h2.trans pw, h3⟩
/-- ints -/
theorem sorts_ints {h0 : Heap} {all : List Value} {ns : List Int} (hx : IntsAre all ns) (few : all.length < 64) : Sorts P w h0 all (fun out => ∃ ms, IntsAre out ms ∧ ms.length < 64) := by
  intro A E s1 l vs R pm _ ol h
  have sh : ∀ (all : List Value) (ns : List Int), IntsAre all ns → ∀ v ∈ all, ∃ k t, v = Value.int k t := by
    intro all ns hx
    induction hx with
    | nil => intro v hv; cases hv
    | @cons n t all ns _ ih =>
      intro v hv
      rcases List.mem_cons.mp hv with e | e
      · exact ⟨n, t, e⟩
      · exact ih v e
  have hI : IntsAre vs (vs.map Builtin.Re.reRawOf) := ints_of vs fun v hv => sh _ _ hx v (pm.mem_iff.mp hv)
  have vl : vs.length < 64 := by rw [pm.length_eq]; exact few
  exact list_sort_tree ol hI vl fun out ms a1 a2 _ => h out ⟨ms, a1, by rw [a2.length_eq, List.length_map]; exact vl⟩
/-! tuples of ints and texts, of one shape -/
def toI : Key → Int ⊕ List Nat
  | .inl i => .inl i
  | .inr x => .inr x.cps.toList
def shOf (k : List Key) : Nat → Bool := fun i => match k[i]? with
  | some (.inr _) => true
  | _ => false
theorem items_key {sh : Nat → Bool} : ∀ (k : List Key) (vs : List Value) (i : Nat), ItemsAre (mixKind P w) k vs → (∀ j q, k[j]? = some q → sh (i + j) = (match q with | .inr _ => true | .inl _ => false)) → tupItems sh i vs = some (k.map toI)
  | [], _, i, .nil, _ => rfl
  | q :: k, v :: vs, i, .cons h1 h2, hs => by
    have ih := items_key (sh := sh) k vs (i + 1) h2 fun j q' e => by
      rw [Nat.add_right_comm, Nat.add_assoc]
      exact hs (j + 1) q' (by simpa using e)
    have h0 := hs 0 q rfl
    rw [Nat.add_zero] at h0
    rcases keyIs_shape (k := q) (v := v) h1 with ⟨n, t, rfl, rfl⟩ | ⟨x, t, rfl, rfl⟩
    · dsimp only at h0
      show (if sh i = true then none else (tupItems sh (i + 1) vs).map (Sum.inl n :: ·)) = _
      rw [h0, if_neg Bool.false_ne_true, ih]
      rfl
    · dsimp only at h0
      show (if sh i = true then (tupItems sh (i + 1) vs).map (Sum.inr x.cps.toList :: ·) else none) = _
      rw [h0, if_pos rfl, ih]
      rfl
theorem sorts_tups {h0 : Heap} {ks : List (Addr × List Key)} {sh : Nat → Bool} (hk : ∀ p ∈ ks, TupK P w h0 p.2 p.1) (ne : ∀ p ∈ ks, p.2 ≠ []) (hs : ∀ p ∈ ks, ∀ j q, p.2[j]? = some q → sh j = (match q with | .inr _ => true | .inl _ => false))
    (inj : ∀ p ∈ ks, ∀ q ∈ ks, p.1 = q.1 → p = q) (few : ks.length < 64) {all : List Value} (ha : all.Perm (ks.map fun p => Value.ref p.1)) :
    Sorts P w h0 all (fun out => ∃ L : List (Addr × List Key), out = L.map (fun p => Value.ref p.1) ∧ L.Perm ks ∧ L.Pairwise fun p q => lexLt itemOrd (q.2.map toI) (p.2.map toI) = false) := by
  intro A E s1 l vs R pm hkp ol h
  -- values as rows
  have rowsOf : ∀ vs : List Value, (∀ v ∈ vs, ∃ p ∈ ks, v = Value.ref p.1) → ∃ L : List (Addr × List Key), vs = L.map (fun p => Value.ref p.1) ∧ ∀ p ∈ L, p ∈ ks := by
    intro vs
    induction vs with
    | nil => intro _; exact ⟨[], rfl, fun p hp => by cases hp⟩
    | cons v vs ih =>
      intro hv
      obtain ⟨p, hp, e⟩ := hv v List.mem_cons_self
      obtain ⟨L, e1, hL⟩ := ih fun u hu => hv u (List.mem_cons_of_mem _ hu)
      refine ⟨p :: L, by rw [List.map_cons, e, e1], fun q hq => ?_⟩
      rcases List.mem_cons.mp hq with z | z
      · rw [z]; exact hp
      · exact hL q z
  have pmk : vs.Perm (ks.map fun p => Value.ref p.1) := pm.trans ha
  have isRow : ∀ v ∈ vs, ∃ p ∈ ks, v = Value.ref p.1 := fun v hv => by
    obtain ⟨p, hp, e⟩ := List.mem_map.mp (pmk.mem_iff.mp hv)
    exact ⟨p, hp, e.symm⟩
  have key1 : ∀ p ∈ ks, tupKeyC s1.heap sh (.ref p.1) = some (p.2.map toI) ∧ ∃ f, TupOf s1.heap sh (.ref p.1) f := fun p hp => by
    obtain ⟨o, its, n, ho, hc, hd, hi⟩ := hk p hp
    have ho1 := hkp _ _ ho
    refine ⟨tupKeyC_of ho1 hc hd (items_key p.2 its.toList 0 hi fun j q e => by rw [Nat.zero_add]; exact hs p hp j q e), ?_⟩
    cases hp2 : p.2 with
    | nil => exact absurd hp2 (ne p hp)
    | cons q k =>
      rw [hp2] at hi
      have h0 := hs p hp 0 q (by rw [hp2]; rfl)
      cases hit : its.toList with
      | nil => rw [hit] at hi; cases hi
      | cons v vs' =>
        rw [hit] at hi
        cases hi with
        | cons a1 _ =>
          refine ⟨v, p.1, o, its, n, rfl, ho1, hc, hd, by rw [← Array.getElem?_toList, hit]; rfl, ?_⟩
          rcases keyIs_shape (k := q) (v := v) a1 with ⟨m, t, rfl, rfl⟩ | ⟨x, t, rfl, rfl⟩
          · exact ⟨fun _ => ⟨m, t, rfl⟩, fun z => (by rw [h0] at z; cases z)⟩
          · exact ⟨fun z => (by rw [h0] at z; cases z), fun _ => ⟨x, t, rfl⟩⟩
  have tups : ∀ vs : List Value, (∀ v ∈ vs, ∃ p ∈ ks, v = Value.ref p.1) → ∃ fs, TupsOf s1.heap sh vs fs := by
    intro vs
    induction vs with
    | nil => intro _; exact ⟨[], .nil⟩
    | cons v vs ih =>
      intro hv
      obtain ⟨p, hp, e⟩ := hv v List.mem_cons_self
      obtain ⟨fs, hfs⟩ := ih fun u hu => hv u (List.mem_cons_of_mem _ hu)
      obtain ⟨_, f, hf⟩ := key1 p hp
      exact ⟨f :: fs, .cons (by rw [e]; exact hf) hfs⟩
  obtain ⟨fs, hfs⟩ := tups vs isRow
  refine PyProof.Rows.G.list_sort_tups ol hfs (fun v hv => ?_) (by rw [pmk.length_eq, List.length_map, sizeLine_eq]; omega) fun st hp hsr _ => ?_
  · obtain ⟨p, hp, e⟩ := isRow v hv
    rw [e]
    exact ⟨_, (key1 p hp).1⟩
  have hl := Array.perm_iff_toList_perm.mp hp
  rw [pairsOf_toList] at hl
  have mem2 : ∀ p ∈ (arrOf st).toList, p.1 = p.2 ∧ p.1 ∈ vs := fun p hp' => mem_zip_self (hl.mem_iff.mp hp')
  have out1 : ((arrOf st).map (·.2)).toList.Perm vs := by
    have e2 := hl.map Prod.snd
    rw [List.map_snd_zip (Nat.le_refl _)] at e2
    rw [Array.toList_map]
    exact e2
  obtain ⟨L, eL, hL⟩ := rowsOf ((arrOf st).map (·.2)).toList fun v hv => isRow v (out1.mem_iff.mp hv)
  refine h _ ⟨L, eL, ?_, ?_⟩
  · -- the rows themselves
    have pr : (L.map fun p => Value.ref p.1).Perm (ks.map fun p => Value.ref p.1) := by rw [← eL]; exact out1.trans pmk
    have back : ∀ M : List (Addr × List Key), (∀ p ∈ M, p ∈ ks) → M = (M.map fun p => Value.ref p.1).filterMap fun v => ks.find? fun p => decide (Value.ref p.1 = v) := by
      intro M
      induction M with
      | nil => intro _; rfl
      | cons p M ih =>
        intro hM
        have hp := hM p List.mem_cons_self
        have : (ks.find? fun q => decide (Value.ref q.1 = Value.ref p.1)) = some p := by
          cases e : ks.find? fun q => decide (Value.ref q.1 = Value.ref p.1) with
          | none =>
            have := List.find?_eq_none.mp e p hp
            simp at this
          | some q =>
            have a1 := List.find?_some e
            have a2 := List.mem_of_find?_eq_some e
            simp only [decide_eq_true_eq, Value.ref.injEq] at a1
            rw [inj q a2 p hp a1]
        rw [List.map_cons, List.filterMap_cons_some (f := fun v => ks.find? fun p => decide (Value.ref p.1 = v)) this, ← ih fun q hq => hM q (List.mem_cons_of_mem _ hq)]
    exact (List.Perm.of_eq (back L hL)).trans ((pr.filterMap _).trans (List.Perm.of_eq (back ks fun p hp => hp).symm))
  · rw [List.pairwise_iff_getElem]
    intro i j hi hj hij
    have sz : L.length = (arrOf st).size := by
      have := congrArg List.length eL
      rw [Array.length_toList, Array.size_map, List.length_map] at this
      exact this.symm
    have at_ : ∀ i (h : i < L.length), KK (tupKindC s1.heap sh) (arrOf st) i = (L[i]).2.map toI := fun i hi => by
      have hi' : i < (arrOf st).size := by rw [← sz]; exact hi
      have e1 : (arrOf st)[i]? = some (arrOf st)[i] := getElem?_pos _ i hi'
      have m := mem2 (arrOf st)[i] (by simp)
      have e2 : ((arrOf st).map (·.2)).toList[i]? = some (Value.ref (L[i]).1) := by rw [eL, List.getElem?_map, List.getElem?_eq_getElem hi]; rfl
      rw [Array.getElem?_toList, Array.getElem?_map, e1] at e2
      have e3 : (arrOf st)[i].2 = Value.ref (L[i]).1 := Option.some.inj e2
      unfold KK
      rw [e1]
      show (tupKeyC s1.heap sh (arrOf st)[i].1).getD [] = _
      rw [m.1, e3, (key1 _ (hL _ (List.getElem_mem hi))).1]
      rfl
    have q := hsr i j (Nat.le_of_lt hij) (by rw [← hp.size_eq, ← sz]; exact hj)
    rw [at_ i hi, at_ j hj] at q
    exact q
end
end QS
namespace QS
open PySem PySem.Spec PyProof.Rows L2
section
variable {P : Program} {w : World}
/-- tuples of different keys go in one by one -/
theorem adds_tups {h0 : Heap} {items : Array Value} {u : Nat} {ks : List (Addr × List Key)} (hi : items.toList = ks.map fun p => Value.ref p.1) (hk : ∀ p ∈ ks, TupK P w h0 p.2 p.1) (nd : (ks.map (·.2)).Nodup) (few : ks.length < 64) (hu : u < cLine) :
    Adds P w h0 items u (fun i o => ∃ L es ep t, TupOb P w L o es ep t ∧ L.Perm (ks.take i)) := by
  intro i v A E s S o Q hv hA _ st ho c h
  obtain ⟨L, es, ep, t, R, pm⟩ := c
  have hv' : items.toList[i]? = some v := by rw [Array.getElem?_toList]; exact hv
  rw [hi, List.getElem?_map] at hv'
  obtain ⟨p, hp, rfl⟩ : ∃ p, ks[i]? = some p ∧ Value.ref p.1 = v := by
    cases e : ks[i]? with
    | none => rw [e] at hv'; cases hv'
    | some p => rw [e] at hv'; exact ⟨p, rfl, Option.some.inj hv'⟩
  have il : i < ks.length := (List.getElem?_eq_some_iff.mp hp).1
  have keep : ∀ {p : Addr × List Key}, p ∈ ks → TupK P w s.heap p.2 p.1 := fun {p} hp => by
    obtain ⟨o, its, n, ho, r⟩ := hk p hp
    exact ⟨o, its, n, st _ _ ho, r⟩
  have inT : ∀ q ∈ L, q ∈ ks := fun q hq => List.mem_of_mem_take (pm.mem_iff.mp hq)
  have ne : ∀ q ∈ L, q.2 ≠ p.2 := fun q hq e => by
    have hq' := pm.mem_iff.mp hq
    obtain ⟨j, hj, ej⟩ := List.getElem_of_mem hq'
    have jl : j < i := by
      have := hj
      rw [List.length_take] at this
      omega
    have e1 : (ks.map (·.2))[j]? = some p.2 := by
      rw [List.getElem?_map]
      have : ks[j]? = some q := by
        rw [List.getElem_take] at ej
        rw [List.getElem?_eq_getElem (by omega), ej]
      rw [this]
      exact congrArg some e
    have e2 : (ks.map (·.2))[i]? = some p.2 := by rw [List.getElem?_map, hp]; rfl
    have := (List.getElem?_inj (by rw [List.length_map]; omega) nd).mp (e1.trans e2.symm)
    omega
  have len : L.length = i := by rw [pm.length_eq, List.length_take]; omega
  refine tup_add R ho (fun q hq => keep (inT q hq)) (keep (List.mem_of_getElem? hp)) ne (Nat.lt_of_le_of_lt hA hu) (by omega) fun h' o' L' es' ep' t' sb ho' R' pm' => ?_
  refine h true h' _ o' (Nat.le_add_right _ _) sb ho' ⟨L', es', ep', t', R', ?_⟩
  rw [List.take_succ, hp]
  exact pm'.trans ((List.Perm.cons p pm).trans (List.perm_append_singleton p _).symm)
theorem tup_fresh (P : Program) (w : World) : TupOb P w [] (freshOb w) #[] 0 (.fresh 0 0 (!w.params.followText "set-order")) where
  ex := ⟨rfl, rfl, rfl⟩
  dt := rfl
  rows := rfl
  tab := ⟨List.Pairwise.nil, rfl, rfl, .inl rfl, fun x hx => (by cases hx), fun i h j hi => (by simp at hi)⟩
  led := by
    show _ ∨ (!w.params.followText "set-order") = true
    cases w.params.followText "set-order"
    · exact .inr rfl
    · exact .inl rfl
  room := by show 0 * 5 < 7 * 3; decide
  few := by show 0 < 64; decide
end
/-! ### as rules -/
/-- what is tracked of a set of ints and texts, of a set of tuples -/
def SetKO (w : World) (a : Addr) (ks : List Key) : HO := .ext fun h => ∃ o, h.get? a = some o ∧ ScanOb w ks.length (· ∈ ks) o
def SetUO (P : Program) (w : World) (a : Addr) (ks : List (Addr × List Key)) : HO := .ext fun h => ∃ o, h.get? a = some o ∧ ∃ L es ep t, TupOb P w L o es ep t ∧ L.Perm ks
theorem setKO_new {P : Program} {w : World} {H : Hp} {h : Heap} {a : Addr} {ks : List Key} {o : Obj} (ho : h.get? a = some o) (R : ScanOb w ks.length (· ∈ ks) o) : ObjOk P w H h a (SetKO w a ks) :=
  ⟨⟨o, ho, R⟩, ⟨o, ho⟩, fun _ _ ⟨o', q, R'⟩ k => ⟨o', k o' q, R'⟩⟩
theorem setUO_new {P : Program} {w : World} {H : Hp} {h : Heap} {a : Addr} {ks : List (Addr × List Key)} {o : Obj} (ho : h.get? a = some o) (R : ∃ L es ep t, TupOb P w L o es ep t ∧ L.Perm ks) : ObjOk P w H h a (SetUO P w a ks) :=
  ⟨⟨o, ho, R⟩, ⟨o, ho⟩, fun _ _ ⟨o', q, R'⟩ k => ⟨o', k o' q, R'⟩⟩
theorem keys_paired : ∀ {ks : List Key} {us : List Value}, Vals (ks.map kV) us → Paired (fun k v => keyIs k v = true) ks us
  | [], _, .nil => .nil
  | k :: ks, _, .cons r t => by
    refine .cons ?_ (keys_paired t)
    cases k with
    | inl i => obtain ⟨tk, rfl⟩ := r; exact keyIs_int i tk
    | inr x => obtain ⟨tk, rfl⟩ := r; exact keyIs_str x tk
section
variable {X : Cx}
theorem tupK_of {pins : List (Addr × Obj)} {σ : L2.St} {H : Hp} {s : Shared} {b : Addr} {k : List Key} (I : Inv X pins σ H s) (h : SqT X.K H b (k.map kV)) : TupK X.prog X.w s.heap k b := by
  obtain ⟨its, r, ⟨o, ho, hc, n, hd⟩, _⟩ := I.tuple h
  exact ⟨o, its.toArray, n, ho, hc, hd, by simpa using items_are r⟩
/-- set(xs), xs ints and texts -/
def rSetKs (K : PySem.W.Frag) (w : World) : List V → Hp → VK → Prop := fun xs H Q => ∃ (l : Addr) (ks : List Key), xs = [V.ref l] ∧ SqL K H l (ks.map kV) ∧ ks.length < 64 ∧ ∀ a, H a = none → Q (.ref a) (upd H a (SetKO w a ks))
theorem cr_setKs (hc : X.calm = true) : CallR X (.type "set") (rSetKs X.K X.w) := by
  intro pins s σ H xs us Q I r h
  obtain ⟨l, ks, rfl, hl, few, q⟩ := h
  rw [Vals.ref1 r]
  obtain ⟨its, rv, pl, _⟩ := I.list hl
  have kl : ks.length = its.length := by have := rv.length; rw [List.length_map] at this; exact this
  refine set_of_list (P := X.prog) (w := X.w) (Core := fun i o => ScanOb X.w i (fun k => k ∈ ks.take i) o) (I.ok.hd hc) pl.isList ((scan_fresh X.w).congr (Nat.le_refl _) fun k => by simp) (adds_scan (by simpa using keys_paired rv) (by unfold scanBound; omega)) fun h' tk o ho c k => ?_
  refine ⟨.ref s.heap.objs.size, _, I.laid (t' := tk) k (Nat.le_refl _) (setKO_new (ks := ks) ho (c.congr ?_ fun j => ?_)), rfl, q _ (I.hok.fresh (Nat.le_refl _))⟩
  · simp [kl]
  · have : ks.take its.toArray.size = ks := List.take_of_length_le (by simp [kl])
    rw [this]
/-- set(xs), xs tuples of ints and texts, all different -/
def rSetUs (K : PySem.W.Frag) (P : Program) (w : World) : List V → Hp → VK → Prop := fun xs H Q => ∃ (l : Addr) (ks : List (Addr × List Key)), xs = [V.ref l] ∧ SqL K H l (ks.map fun p => V.ref p.1) ∧ (∀ p ∈ ks, SqT K H p.1 (p.2.map kV)) ∧
  (ks.map (·.2)).Nodup ∧ ks.length < 64 ∧ ∀ a, H a = none → Q (.ref a) (upd H a (SetUO P w a ks))
theorem refs_are : ∀ {ks : List (Addr × List Key)} {us : List Value}, Vals (ks.map fun p => V.ref p.1) us → us = ks.map fun p => Value.ref p.1
  | [], _, .nil => rfl
  | p :: ks, _, .cons r t => by
    cases r
    rw [refs_are t]
    rfl
theorem are_refs : ∀ (ks : List (Addr × List Key)), Vals (ks.map fun p => V.ref p.1) (ks.map fun p => Value.ref p.1)
  | [] => .nil
  | _ :: ks => .cons rfl (are_refs ks)
theorem cr_setUs (hc : X.calm = true) (hu : X.A.units + 64 < cLine) : CallR X (.type "set") (rSetUs X.K X.prog X.w) := by
  intro pins s σ H xs us Q I r h
  obtain ⟨l, ks, rfl, hl, hk, nd, few, q⟩ := h
  rw [Vals.ref1 r]
  obtain ⟨its, rv, pl, _⟩ := I.list hl
  have e := refs_are rv
  have kl : its.length = ks.length := by rw [e, List.length_map]
  refine set_of_list (P := X.prog) (w := X.w) (Core := fun i o => ∃ L es ep t, TupOb X.prog X.w L o es ep t ∧ L.Perm (ks.take i)) (I.ok.hd hc) pl.isList ⟨[], _, _, _, tup_fresh _ _, List.Perm.refl _⟩ (adds_tups (by simpa using e) (fun p hp => tupK_of I (hk p hp)) nd few (by omega)) fun h' tk o ho c k => ?_
  refine ⟨.ref s.heap.objs.size, _, I.laid (t' := tk) k (Nat.le_refl _) (setUO_new (ks := ks) ho ?_), rfl, q _ (I.hok.fresh (Nat.le_refl _))⟩
  obtain ⟨L, es, ep, t, R, pm⟩ := c
  refine ⟨L, es, ep, t, R, ?_⟩
  rw [List.take_of_length_le (by simp [kl])] at pm
  exact pm
/-- a sorted list comes back -/
theorem sorted_back {pins : List (Addr × Obj)} {σ : L2.St} {H : Hp} {s s' : Shared} {p : Addr} {out : Array Value} {c : Nat} {xs : List V} {Q : VK} (I : Inv X pins σ H s) (k : ∀ b x, s.heap.get? b = some x → s'.heap.get? b = some x) (g : s'.gens = s.gens) (o : s'.os = s.os)
    (hp : s.heap.objs.size ≤ p) (hg : s'.heap.get? p = some (seqObj "list" out c)) (hv : Vals xs out.toList) (hl : xs.length ≤ sizeLine) (q : H p = none → Q (.ref p) (upd H p (.lst xs))) : ∃ v H', Inv X pins σ H' s' ∧ RelV v (.ref p) ∧ Q v H' := by
  have hn : H p = none := I.hok.fresh hp
  have J : Inv X pins σ (upd H p (.lst xs)) { s with heap := s'.heap, gens := s'.gens, drawn := s'.drawn, toks := s'.toks } :=
    I.call (ch := []) (Un.laid k hp hn) (I.hok.laid k hp ⟨hl, out.toList, c, hv, hg⟩) (by rw [g]; exact I.bare) (fun _ z => nomatch z)
  have e : s' = { s with heap := s'.heap, gens := s'.gens, drawn := s'.drawn, toks := s'.toks } := by
    cases s'
    cases s
    cases o
    rfl
  rw [e]
  exact ⟨.ref p, _, J, rfl, q hn⟩
theorem strs_vals : ∀ {vs : List Value} {ys : List Str}, StrsAre vs ys → Vals (ys.map V.str) vs
  | _, _, .nil => .nil
  | _, _, .cons y t r => .cons ⟨t, rfl⟩ (strs_vals r)
theorem ints_vals : ∀ {vs : List Value} {ns : List Int}, IntsAre vs ns → Vals (ns.map V.int) vs
  | _, _, .nil => .nil
  | _, _, .cons n t r => .cons ⟨t, rfl⟩ (ints_vals r)
/-- sorted(set), all texts; all ints -/
def rSortedKs (w : World) : List V → Hp → VK → Prop := fun vs H Q => ∃ (a : Addr) (ks : List Key), vs = [V.ref a] ∧ H a = some (SetKO w a ks) ∧ ks.length < 64 ∧
  ((∃ xs : List Str, ks = xs.map Sum.inr ∧ ∀ (ys : List Str) (p : Addr), ys.Nodup → (∀ y, y ∈ ys ↔ y ∈ xs) → sortedS ys = true → ys.length ≤ xs.length → H p = none → Q (.ref p) (upd H p (.lst (ys.map V.str)))) ∨
   (∃ ns : List Int, ks = ns.map Sum.inl ∧ ∀ (ms : List Int) (p : Addr), ms.length < 64 → H p = none → Q (.ref p) (upd H p (.lst (ms.map V.int)))))
theorem strs_of_keys : ∀ (l : List (Int × Value)), (∀ e ∈ l, ∃ x, keyIs (.inr x) e.2 = true) → StrsAre (l.map (·.2)) (l.map fun e => strOf e.2)
  | [], _ => .nil
  | e :: l, h => by
    obtain ⟨x, hx⟩ := h e List.mem_cons_self
    rcases keyIs_shape hx with ⟨i, t, q, _⟩ | ⟨y, t, q, e1⟩
    · cases q
    · rw [List.map_cons, List.map_cons, e1]
      exact .cons y t (strs_of_keys l fun z hz => h z (List.mem_cons_of_mem _ hz))
theorem ints_of_keys : ∀ (l : List (Int × Value)), (∀ e ∈ l, ∃ x, keyIs (.inl x) e.2 = true) → ∃ ns, IntsAre (l.map (·.2)) ns
  | [], _ => ⟨[], .nil⟩
  | e :: l, h => by
    obtain ⟨x, hx⟩ := h e List.mem_cons_self
    obtain ⟨ns, hns⟩ := ints_of_keys l fun z hz => h z (List.mem_cons_of_mem _ hz)
    rcases keyIs_shape hx with ⟨i, t, q, e1⟩ | ⟨y, t, q, _⟩
    · rw [List.map_cons, e1]
      exact ⟨_, .cons i t hns⟩
    · cases q
theorem cr_sortedKs (hc : X.calm = true) : CallR X (.builtin "sorted") (rSortedKs X.w) := by
  intro pins s σ H vs us Q I r h
  obtain ⟨a, ks, rfl, ha, few, q⟩ := h
  obtain ⟨o, ho, R⟩ : ∃ o, s.heap.get? a = some o ∧ ScanOb X.w ks.length (· ∈ ks) o := (I.hok a _ ha).1
  obtain ⟨es, ep, t, hex, hd, g, nd, hM, hn, hf, hr, hl⟩ := R.ex
  rw [Vals.ref1 r]
  have key : ∀ e ∈ es.toList, kOf e.2 ∈ ks := fun e he => (hM _).mpr (List.mem_map.mpr ⟨e, he, rfl⟩)
  rcases q with ⟨xs, rfl, q⟩ | ⟨ns, rfl, q⟩
  · have hS : StrsAre (es.toList.map (·.2)) (es.toList.map fun e => strOf e.2) := strs_of_keys _ fun e he => by
      obtain ⟨x, _, hx⟩ := List.mem_map.mp (key e he)
      have := (g e he).1
      rw [← hx] at this
      exact ⟨x, this⟩
    have kS : ∀ e ∈ es.toList, kOf e.2 = Sum.inr (strOf e.2) := fun e he => by
      obtain ⟨x, _, hx⟩ := List.mem_map.mp (key e he)
      have := (g e he).1
      rw [← hx] at this
      rcases keyIs_shape this with ⟨i, t, q, _⟩ | ⟨y, t, q, e1⟩
      · cases q
      · rw [e1]
        rfl
    have mapS : keysOf es.toList = (es.toList.map fun e => strOf e.2).map Sum.inr := by
      rw [List.map_map]
      exact List.map_congr_left fun e he => kS e he
    refine sorted_of (P := X.prog) (w := X.w) (I.ok.hd hc) ho hex hd hf (by omega) hr hl (sorts_texts hS (by rw [List.length_map, Array.length_toList]; omega)) fun s' p out c k1 g1 o1 z1 hg ok => ?_
    obtain ⟨ys, h1, h2, h3⟩ := ok
    have ndS : ys.Nodup := h2.nodup_iff.mpr (by
      rw [mapS] at nd
      exact List.Pairwise.of_map Sum.inr (fun a b hne e => hne (congrArg Sum.inr e)) nd)
    have mem : ∀ y, y ∈ ys ↔ y ∈ xs := fun y => by
      rw [h2.mem_iff]
      have a1 := hM (Sum.inr y)
      rw [mapS, List.mem_map, List.mem_map] at a1
      constructor
      · intro hy
        obtain ⟨x, hx, e⟩ := a1.mpr ⟨y, hy, rfl⟩
        rw [← Sum.inr.inj e]
        exact hx
      · intro hy
        obtain ⟨x, hx, e⟩ := a1.mp ⟨y, hy, rfl⟩
        rw [← Sum.inr.inj e]
        exact hx
    have lenS : ys.length ≤ xs.length := by
      rw [h2.length_eq, List.length_map, Array.length_toList]
      rw [List.length_map] at hn
      exact hn
    rw [List.length_map] at few
    exact sorted_back I k1 g1 o1 z1 hg (strs_vals h1) (by rw [List.length_map, sizeLine_eq]; omega) fun hn => q ys p ndS mem h3 lenS hn
  · obtain ⟨zs, hz⟩ := ints_of_keys es.toList fun e he => by
      obtain ⟨x, _, hx⟩ := List.mem_map.mp (key e he)
      have := (g e he).1
      rw [← hx] at this
      exact ⟨x, this⟩
    refine sorted_of (P := X.prog) (w := X.w) (I.ok.hd hc) ho hex hd hf (by omega) hr hl (sorts_ints hz (by rw [List.length_map, Array.length_toList]; omega)) fun s' p out c k1 g1 o1 z1 hg ok => ?_
    obtain ⟨ms, h1, h2⟩ := ok
    exact sorted_back I k1 g1 o1 z1 hg (ints_vals h1) (by rw [List.length_map, sizeLine_eq]; omega) fun hn => q ms p h2 hn
/-- sorted(set), tuples of one shape -/
def rSortedUs (K : PySem.W.Frag) (P : Program) (w : World) : List V → Hp → VK → Prop := fun vs H Q => ∃ (a : Addr) (ks : List (Addr × List Key)) (sh : Nat → Bool), vs = [V.ref a] ∧ H a = some (SetUO P w a ks) ∧ (∀ p ∈ ks, SqT K H p.1 (p.2.map kV)) ∧ (∀ p ∈ ks, p.2 ≠ []) ∧
  (∀ p ∈ ks, ∀ (j : Nat) (q : Key), p.2[j]? = some q → sh j = (match q with | .inr _ => true | .inl _ => false)) ∧
  ∀ (L : List (Addr × List Key)) (p : Addr), L.Perm ks → L.Pairwise (fun p q => lexLt itemOrd (q.2.map toI) (p.2.map toI) = false) → H p = none → Q (.ref p) (upd H p (.lst (L.map fun p => V.ref p.1)))
theorem cr_sortedUs (hc : X.calm = true) : CallR X (.builtin "sorted") (rSortedUs X.K X.prog X.w) := by
  intro pins s σ H vs us Q I r h
  obtain ⟨a, ks, sh, rfl, ha, hk, ne, hs, q⟩ := h
  obtain ⟨o, ho, L0, es, ep, t, R, pm⟩ : ∃ o, s.heap.get? a = some o ∧ ∃ L es ep t, TupOb X.prog X.w L o es ep t ∧ L.Perm ks := (I.hok a _ ha).1
  rw [Vals.ref1 r]
  have few : ks.length < 64 := by rw [← pm.length_eq]; exact R.few
  have tk : ∀ p ∈ ks, TupK X.prog X.w s.heap p.2 p.1 := fun p hp => tupK_of I (hk p hp)
  have inj : ∀ p ∈ ks, ∀ q ∈ ks, p.1 = q.1 → p = q := fun p hp q hq e => by
    have a1 := tk p hp
    have a2 := tk q hq
    rw [e] at a1
    exact Prod.ext e (a1.inj a2)
  have hvs : (es.toList.map (·.2)).Perm (ks.map fun p => Value.ref p.1) := by
    rw [R.rows, List.map_map]
    exact pm.map fun p => Value.ref p.1
  refine sorted_of (P := X.prog) (w := X.w) (I.ok.hd hc) ho R.ex R.dt R.fits (by rw [R.size]; exact R.few) R.tab.ris R.led (sorts_tups tk ne hs inj few hvs) fun s' p out c k1 g1 o1 z1 hg ok => ?_
  obtain ⟨L, e, p1, p2⟩ := ok
  exact sorted_back I k1 g1 o1 z1 hg (by rw [e]; exact are_refs L) (by rw [List.length_map, p1.length_eq, sizeLine_eq]; omega) fun hn => q L p p1 p2 hn
end
end QS
/-! Rules that the layer lacks: a power of a large base, < of data, not in a tuple of tuples, enumerate of a tuple. -/
namespace QR
open PySem PySem.Spec PyProof.Rows L2
section
variable {X : Cx}
theorem op_powB : OpR X (binaryOp .Pow) (rI (fun i j => 0 ≤ j ∧ (Builtin.Int.intBits i : Int) * j ≤ 2 ^ 27) fun i j => .int (i ^ j.toNat)) := opI fun _ _ _ _ _ _ _ hc q => pow_int hc.1 hc.2 q
/-- x < y, data that are alike -/
def rLtD (K : PySem.W.Frag) : R2 := fun x y H Q => ∃ d e, Dp K H x d ∧ Dp K H y e ∧ PySem.W.alike d e = true ∧ d ≠ .none ∧ d.depth ≤ 32 ∧ Q (.bl (PySem.W.dataLt d e)) H
theorem op_ltD (hu : X.A.units + 64 < cLine) : OpR X (compareOp .Lt) (rLtD X.K) := by
  intro pins s σ H x y v u Q I rx ry h
  obtain ⟨d, e, hd, he, al, nn, dp, q⟩ := h
  obtain ⟨as, r1⟩ := Dp.reads I d x v hd rx
  obtain ⟨bs, r2⟩ := Dp.reads I e y u he ry
  exact PySem.W.lt_data r1 r2 al nn (by have := Nat.min_le_left d.depth e.depth; omega) ⟨.bl _, H, I, rfl, q⟩
/-- x not in t, t a tuple of data -/
def rNotInT (K : PySem.W.Frag) : R2 := fun x y H Q => ∃ d ds, Dp K H x d ∧ Dp K H y (.tuple ds) ∧ SeqAt.shaped d = true ∧ SeqAt.shaped (.tuple ds) = true ∧ Q (.bl (!ds.any fun z => PyData.eqv z d)) H
theorem op_notInT (hu : X.A.units + 66 < cLine) : OpR X (compareOp .NotIn) (rNotInT X.K) := by
  intro pins s σ H x y v u Q I rx ry h
  obtain ⟨d, ds, hd, he, sd, se, q⟩ := h
  obtain ⟨as, r1⟩ := Dp.reads I d x v hd rx
  obtain ⟨bs, r2⟩ := Dp.reads I (.tuple ds) y u he ry
  have dd := SeqAt.depth_of_shaped sd
  exact SeqAt.notIn_tuple_reads r2 r1 (SeqAt.canLay_of_shaped se) (SeqAt.canLay_of_shaped sd) (by have := Nat.min_le_right (PyData.depthAll ds) d.depth; omega) ⟨.bl _, H, I, rfl, q⟩

/-! ### enumerate(tuple) -/
theorem meets_enum0 {v : Value} {o : Obj} {W : Heap → Prop} (B : Begins v o W) :
    Meets (Builtin.«enumerate.__new__» ⟨[.type "enumerate", v], []⟩) (fun _ R s => W s.heap ∧
      R (.ok (.ret (.ref (s.heap.push o).objs.size))) { s with heap := (s.heap.push o).push { cls := .type "enumerate", data := .fields #[.none, .bool false, .ref s.heap.objs.size, rawInt 0, .none, .none] } }) :=
  .of_wp fun prog w A R s h => by
    obtain ⟨hp, g, d, tk, os⟩ := s
    obtain ⟨h1, h⟩ := h
    have hsub := sub_enumerate
    have it : ∀ {A' : Around} {E : Value → Shared → Prop} {Q : Value → Shared → Prop}, Q (.ref hp.objs.size) ⟨hp.push o, g, d, tk, os⟩ → wpAny (model prog w) A' (pyIter v) Q E ⟨hp, g, d, tk, os⟩ :=
      fun q => B.iter prog w _ _ ⟨hp, g, d, tk, os⟩ _ h1 q
    wp_walk using it
    refine wpAny_stack_any fun st => wpAny_pure ?_
    split
    · rename_i c _ _ _ _ _
      cases (c == Value.type "enumerate") <;> (wp_walk using it; exact ⟨_, rfl, h⟩)
    · wp_walk using it
      exact ⟨_, rfl, h⟩
theorem enum0 {prog : Program} {w : World} {A : Around} {E : Value → Shared → Prop} {s : Shared} {v : Value} {o : Obj} {W : Heap → Prop} {Q : Value → Shared → Prop} (B : Begins v o W) (h1 : W s.heap)
    (h : ∀ h', IsEnum h' (s.heap.objs.size + 1) s.heap.objs.size 0 .none → h'.get? s.heap.objs.size = some o → (∀ b x, s.heap.get? b = some x → h'.get? b = some x) → Q (.ref (s.heap.objs.size + 1)) { s with heap := h' }) :
    wpAny (model prog w) A (call (.type "enumerate") [v]) Q E s := by
  refine callType_new F.called_enumerate (by decide) (F.typeCall_enumerate_1 _) (F.newCall_enumerate_1 _) (fun obj => F.args_object_init_2 obj _) F.entry_enumerate_new (meets_enum0 B) ⟨h1, ?_⟩
  have sz : (s.heap.push o).objs.size = s.heap.objs.size + 1 := Heap.size_push ..
  show _ ∧ _
  rw [sz]
  have he : IsEnum ((s.heap.push o).push { cls := .type "enumerate", data := .fields #[.none, .bool false, .ref s.heap.objs.size, rawInt 0, .none, .none] }) (s.heap.objs.size + 1) s.heap.objs.size 0 .none := by
    have q := Heap.get?_push_size (s.heap.push o) (o := { cls := .type "enumerate", data := .fields #[.none, .bool false, .ref s.heap.objs.size, rawInt 0, .none, .none] }) rfl
    rw [sz] at q
    exact q
  exact ⟨⟨_, he, rfl⟩, h _ he (Heap.get?_push_of_some _ (Heap.get?_push_size _ B.free)) fun b x e => Heap.get?_push_of_some _ (Heap.get?_push_of_some _ e)⟩
/-- the tuple at a as it stands, each item in a new pair with its place -/
def IteT (K : PySem.W.Frag) (a : Addr) : It :=
  ⟨fun i H => ∃ (xs : List V) (x : V), SqT K H a xs ∧ xs[i]? = some x, fun i H v H' => ∃ T x, v = .ref T ∧ H T = none ∧ H' = upd H T (.tup [.int (i : Nat), x]) ∧ ∀ xs, SqT K H a xs → xs[i]? = some x, fun i H => ∃ xs : List V, SqT K H a xs ∧ xs.length = i⟩
theorem turn_enumT {P : Program} {w : World} {K : PySem.W.Frag} {elts : List Expr} {kk : Nat} {tpos : Pos} (a e it : Addr) (hai : a ≠ it) (hae : a ≠ e) :
    Turn P w K (.Tuple elts kk tpos) (IteT K a) [e, it] e (fun i h => (∃ old, IsEnum h e it ((i : Nat) : Int) old) ∧ h.IsTupleIter it a i ∧ e ≠ it) where
  mem := by simp
  obj := fun i h st b hb => by
    obtain ⟨⟨old, he⟩, ⟨o, ho, hc, hd⟩, _⟩ := st
    rcases (by simpa using hb : b = e ∨ b = it) with z | z
    · rw [z]; exact ⟨_, he, fun v q => nomatch q⟩
    · rw [z]; exact ⟨o, ho, fun v q => by rw [hd] at q; cases q⟩
  keep := fun i h h' st k => ⟨st.1.elim fun old he => ⟨old, k e (by simp) _ he⟩, st.2.1.at fun o q => k it (by simp) o q, st.2.2⟩
  item := by
    intro X hP hw hK hc i pins s σ H E I hf st hg
    subst hP hw hK
    obtain ⟨⟨old, he⟩, hit, hne⟩ := st
    obtain ⟨xs, x, hq, hx⟩ := hg
    obtain ⟨its, rv, p, hz⟩ := I.tuple hq
    obtain ⟨u, hu, ru⟩ := rv.get hx
    have hel : e < s.heap.objs.size := Heap.lt_size he
    have hil : it < s.heap.objs.size := by obtain ⟨_, q, _⟩ := hit; exact Heap.lt_size q
    have hit2 : s.heap.IsTupleIter it a i := hit
    have pT : s.heap.IsTuple a its.toArray := p
    refine wpAny_pyNext_enum_itemC (Draws.tuple (A := X.A.in1) (show X.A.in1.handled = none from I.ok.hd hc) it a hai its.toArray) he ⟨hit2, pT⟩ (by simpa using (List.getElem?_eq_some_iff.mp hu).1) hne (by simp [hne]; exact fun z => hae z.symm) fun v h' tk hv ho st' hT hsz hk => ?_
    obtain rfl : v = u := by
      have q : its.toArray[i]? = some v := hv
      have q2 : its[i]? = some v := by simpa using q
      exact Option.some.inj (q2.symm.trans hu)
    refine ⟨_, rfl, wpAny_letOwnedTupleGo_enum (s := { s with heap := h', toks := tk + 1 }) ho fun h'' he' sb => ?_⟩
    have hT2 : h''.get? s.heap.objs.size = some { cls := .type "tuple", data := .seq #[.int i tk, v] } := (sb.2 _ (Nat.ne_of_gt hel)).trans hT
    have new : ObjOk X.prog X.w (upd H s.heap.objs.size (.tup [.int (i : Nat), x])) h'' s.heap.objs.size (.tup [.int (i : Nat), x]) :=
      ⟨by show 2 ≤ sizeLine; decide, [.int i tk, v], .cons ⟨_, rfl⟩ (.cons ru .nil), ⟨_, hT2, rfl, _, rfl⟩⟩
    have I1 : Inv X pins σ (upd H s.heap.objs.size (.tup [.int (i : Nat), x])) { s with heap := h'', toks := tk + 1 } :=
      I.turnedNew (ch := [e, it]) (fun b ob hb q => (sb.2 b (fun z => hb (by simp [z]))).trans (hk b ob (fun z => hb (by simp [z])) (fun z => hb (by simp [z])) q)) hf (Nat.le_refl _) new
    refine ⟨.ref s.heap.objs.size, _, I1, rfl, ⟨_, x, rfl, I.hok.fresh (Nat.le_refl _), rfl, fun ys hy => by rw [I.tuple_inj hy hq]; exact hx⟩, ⟨⟨v, ?_⟩, st'.1.at fun o q => (sb.2 it (Ne.symm hne)).trans q, hne⟩, fun b hb => ?_⟩
    · have e1 : ((i + 1 : Nat) : Int) = (i : Int) + 1 := by omega
      rw [e1]
      exact he'
    · have hb' : b < s.heap.objs.size := by
        rcases (by simpa using hb : b = e ∨ b = it) with z | z
        · rw [z]; exact hel
        · rw [z]; exact hil
      rw [upd_ne (Nat.ne_of_lt hb')]
      exact (hf b hb).1
  done := by
    intro X hP hw hK hc i pins s σ H E I hf st hg
    subst hP hw hK
    obtain ⟨⟨old, he⟩, hit, hne⟩ := st
    obtain ⟨xs, hq, hx⟩ := hg
    obtain ⟨its, rv, p, hz⟩ := I.tuple hq
    obtain ⟨f0, f1, f2, f3, f4, f5⟩ := hf it (by simp)
    have pT : s.heap.IsTuple a its.toArray := p
    have hl : its.toArray.size = i := by have := rv.length; simp; omega
    exact wpAny_pyNext_enum_endD (Draws.tuple (A := X.A.in1) (show X.A.in1.handled = none from I.ok.hd hc) it a hai its.toArray) he (by rw [hl]; exact ⟨hit, pT⟩) fun h' eb => ⟨rfl, I.turned (t' := s.toks) (fun b o hb q => eb b o hb q) f0 f1 f3 f4 f5⟩
  self := fun A i s Q E st h => let ⟨⟨_, he⟩, _⟩ := st; wpAny_pyIter_enum he h
def iEnumT (K : PySem.W.Frag) (ta : TA) : TI := fun σ H R => ta σ H fun vs H1 => ∃ a xs, vs = [.ref a] ∧ SqT K H1 a xs ∧ R (IteT K a) H1
theorem pi_enumT {e : Expr} {ta : TA} {p pos tpos : Pos} {elts : List Expr} {kk : Nat} (hg : Gl X "enumerate") (hm : X.mg "enumerate" = none) (ha : PA X [e] ta) (hs : starEach [e] X.env = [(false, eval e X.env)] := by rfl) :
    PI X (.Tuple elts kk tpos) (.Call (.Name "enumerate" p) [e] [] pos) (iEnumT X.K ta) := by
  refine ⟨fun pins s σ H R I h => ?_⟩
  refine Call_ (ld_blt I hg hm boot_enumerate (PyProof.Rows.callWith_type1 (thn (ha.run pos pins s σ H _ I h) fun us s1 ⟨vs, H1, I1, r1, q1⟩ => ?_) hs rfl))
  obtain ⟨a, xs, ex, hq, q⟩ := q1
  subst ex
  cases r1 with
  | cons r rr =>
    cases rr
    cases r
    obtain ⟨its, rv, p', hz⟩ := I1.tuple hq
    have pT : s1.heap.IsTuple a its.toArray := p'
    have al : a < s1.heap.objs.size := by obtain ⟨o, ho, _⟩ := id pT; exact Heap.lt_size ho
    refine enum0 (begins_tuple a its.toArray) pT fun h' he hit hk => wpAny_pyIter_enum he ?_
    have I2 : Inv X pins σ H1 { s1 with heap := h' } := I1.kept (t' := s1.toks) hk
    refine ⟨s1.heap.objs.size + 1, [s1.heap.objs.size + 1, s1.heap.objs.size], _, _, H1, rfl, I2, turn_enumT a (s1.heap.objs.size + 1) s1.heap.objs.size (Nat.ne_of_lt al) (Nat.ne_of_lt (Nat.lt_succ_of_lt al)), ⟨⟨.none, he⟩, ⟨_, hit, rfl, rfl⟩, Nat.succ_ne_self _⟩, fun b hb => ?_, q⟩
    have hle : s1.heap.objs.size ≤ b := by
      rcases (by simpa using hb : b = s1.heap.objs.size + 1 ∨ b = s1.heap.objs.size) with z | z
      · rw [z]; exact Nat.le_add_right _ _
      · rw [z]; exact Nat.le_refl _
    exact I1.fpOk hle (I1.hok.fresh hle)
theorem walk_enumT {K : PySem.W.Frag} {a : Addr} {xs : List V} : Walk (IteT K a) xs.length (fun H => SqT K H a xs) (YPair (fun i => some (.int (i : Nat))) (fun i => xs[i]?)) where
  goes := fun i H hi q => ⟨xs, xs[i], q, by simp [hi]⟩
  stops := fun H q => ⟨xs, q, rfl⟩
  yields := fun i H x H' hi q y => by
    obtain ⟨T, z, e1, e2, e3, e4⟩ := y
    exact ⟨T, _, z, e1, e2, e3, rfl, e4 xs q⟩
end
end QR
namespace QT
open PySem PySem.Spec PyProof.Rows L2
/-! ### the text -/
def topS (i : Nat) : Stmt := PySem.Challenge.pw_quietturns_k27_whole_each_link_has_one_s.main.body.getD i (.Pass ⟨0, 0, 0, 0⟩)
abbrev s_is_integer : Stmt := topS 13
abbrev N_is_integer : List Str := ["value"]
theorem sc_is_integer : FnScope N_is_integer ["value"] (defScope s_is_integer) := ⟨rfl, rfl, rfl, by decide +kernel, rfl, by decide +kernel, by decide +kernel⟩
abbrev s_is_from : Stmt := topS 14
abbrev N_is_from : List Str := ["value", "least"]
theorem sc_is_from : FnScope N_is_from ["value", "least"] (defScope s_is_from) := ⟨rfl, rfl, rfl, by decide +kernel, rfl, by decide +kernel, by decide +kernel⟩
abbrev s_is_name : Stmt := topS 15
abbrev N_is_name : List Str := ["value", "sign"]
theorem sc_is_name : FnScope N_is_name ["value"] (defScope s_is_name) := ⟨rfl, rfl, rfl, by decide +kernel, rfl, by decide +kernel, by decide +kernel⟩
abbrev s_is_one_of : Stmt := topS 16
abbrev N_is_one_of : List Str := ["value", "some"]
theorem sc_is_one_of : FnScope N_is_one_of ["value", "some"] (defScope s_is_one_of) := ⟨rfl, rfl, rfl, by decide +kernel, rfl, by decide +kernel, by decide +kernel⟩
abbrev s_is_tuple_of : Stmt := topS 17
abbrev N_is_tuple_of : List Str := ["value", "many"]
theorem sc_is_tuple_of : FnScope N_is_tuple_of ["value", "many"] (defScope s_is_tuple_of) := ⟨rfl, rfl, rfl, by decide +kernel, rfl, by decide +kernel, by decide +kernel⟩
abbrev s_is_tuple_to : Stmt := topS 18
abbrev N_is_tuple_to : List Str := ["value", "most"]
theorem sc_is_tuple_to : FnScope N_is_tuple_to ["value", "most"] (defScope s_is_tuple_to) := ⟨rfl, rfl, rfl, by decide +kernel, rfl, by decide +kernel, by decide +kernel⟩
abbrev s_are_ascending : Stmt := topS 19
abbrev N_are_ascending : List Str := ["things", "one", "other"]
theorem sc_are_ascending : FnScope N_are_ascending ["things"] (defScope s_are_ascending) := ⟨rfl, rfl, rfl, by decide +kernel, rfl, by decide +kernel, by decide +kernel⟩
abbrev s_is_ascending_of : Stmt := topS 20
abbrev N_is_ascending_of : List Str := ["value", "some", "item"]
theorem sc_is_ascending_of : FnScope N_is_ascending_of ["value", "some"] (defScope s_is_ascending_of) := ⟨rfl, rfl, rfl, by decide +kernel, rfl, by decide +kernel, by decide +kernel⟩
abbrev s_are_routers : Stmt := topS 26
abbrev N_are_routers : List Str := ["value", "name"]
theorem sc_are_routers : FnScope N_are_routers ["value"] (defScope s_are_routers) := ⟨rfl, rfl, rfl, by decide +kernel, rfl, by decide +kernel, by decide +kernel⟩
abbrev s_is_link : Stmt := topS 27
abbrev N_is_link : List Str := ["value", "routers"]
theorem sc_is_link : FnScope N_is_link ["value", "routers"] (defScope s_is_link) := ⟨rfl, rfl, rfl, by decide +kernel, rfl, by decide +kernel, by decide +kernel⟩
abbrev s_are_links : Stmt := topS 28
abbrev N_are_links : List Str := ["value", "routers", "link"]
theorem sc_are_links : FnScope N_are_links ["value", "routers"] (defScope s_are_links) := ⟨rfl, rfl, rfl, by decide +kernel, rfl, by decide +kernel, by decide +kernel⟩
abbrev s_check_routers : Stmt := topS 30
abbrev N_check_routers : List Str := ["net", "values", "value"]
theorem sc_check_routers : FnScope N_check_routers ["net", "values"] (defScope s_check_routers) := ⟨rfl, rfl, rfl, by decide +kernel, rfl, by decide +kernel, by decide +kernel⟩
abbrev s_link_of : Stmt := topS 31
abbrev N_link_of : List Str := ["net", "a", "b", "link"]
theorem sc_link_of : FnScope N_link_of ["net", "a", "b"] (defScope s_link_of) := ⟨rfl, rfl, rfl, by decide +kernel, rfl, by decide +kernel, by decide +kernel⟩
abbrev s_lengths_of : Stmt := topS 32
abbrev N_lengths_of : List Str := ["net", "found", "a", "b", "there", "back"]
theorem sc_lengths_of : FnScope N_lengths_of ["net"] (defScope s_lengths_of) := ⟨rfl, rfl, rfl, by decide +kernel, rfl, by decide +kernel, by decide +kernel⟩
abbrev s_distances_to : Stmt := topS 34
abbrev N_distances_to : List Str := ["routers", "lengths", "d", "found", "turn", "pair", "length"]
theorem sc_distances_to : FnScope N_distances_to ["routers", "lengths", "d"] (defScope s_distances_to) := ⟨rfl, rfl, rfl, by decide +kernel, rfl, by decide +kernel, by decide +kernel⟩
abbrev s_nexts_by : Stmt := topS 35
abbrev N_nexts_by : List Str := ["routers", "lengths", "distances", "router", "fine", "n"]
theorem sc_nexts_by : FnScope N_nexts_by ["routers", "lengths", "distances", "router"] (defScope s_nexts_by) := ⟨rfl, rfl, rfl, by decide +kernel, rfl, by decide +kernel, by decide +kernel⟩
abbrev s_tables_by : Stmt := topS 36
abbrev N_tables_by : List Str := ["routers", "lengths", "found", "d", "distances", "router"]
theorem sc_tables_by : FnScope N_tables_by ["routers", "lengths"] (defScope s_tables_by) := ⟨rfl, rfl, rfl, by decide +kernel, rfl, by decide +kernel, by decide +kernel⟩
abbrev s_next_tables : Stmt := topS 37
abbrev N_next_tables : List Str := ["net"]
theorem sc_next_tables : FnScope N_next_tables ["net"] (defScope s_next_tables) := ⟨rfl, rfl, rfl, by decide +kernel, rfl, by decide +kernel, by decide +kernel⟩
abbrev s_nexts : Stmt := topS 38
abbrev N_nexts : List Str := ["net", "a", "d"]
theorem sc_nexts : FnScope N_nexts ["net", "a", "d"] (defScope s_nexts) := ⟨rfl, rfl, rfl, by decide +kernel, rfl, by decide +kernel, by decide +kernel⟩
abbrev s_shifted : Stmt := topS 41
abbrev N_shifted : List Str := ["net", "a", "b", "t", "there", "back"]
theorem sc_shifted : FnScope N_shifted ["net", "a", "b", "t"] (defScope s_shifted) := ⟨rfl, rfl, rfl, by decide +kernel, rfl, by decide +kernel, by decide +kernel⟩
abbrev s_point : Stmt := topS 42
abbrev N_point : List Str := ["net", "a", "b", "router", "d", "change"]
theorem sc_point : FnScope N_point ["net", "a", "b", "router", "d"] (defScope s_point) := ⟨rfl, rfl, rfl, by decide +kernel, rfl, by decide +kernel, by decide +kernel⟩
abbrev s_all_points : Stmt := topS 43
abbrev N_all_points : List Str := ["change", "routers", "found", "router", "d", "at"]
theorem sc_all_points : FnScope N_all_points ["change", "routers"] (defScope s_all_points) := ⟨rfl, rfl, rfl, by decide +kernel, rfl, by decide +kernel, by decide +kernel⟩
abbrev s_points : Stmt := topS 44
abbrev N_points : List Str := ["net", "a", "b"]
theorem sc_points : FnScope N_points ["net", "a", "b"] (defScope s_points) := ⟨rfl, rfl, rfl, by decide +kernel, rfl, by decide +kernel, by decide +kernel⟩
abbrev s_l_pot : Stmt := topS 46
abbrev N_l_pot : List Str := ["_law_script", "_law_k", "_law_cell", "_law_own"]
theorem sc_l_pot : FnScope N_l_pot ["_law_script", "_law_k"] (defScope s_l_pot) := ⟨rfl, rfl, rfl, by decide +kernel, rfl, by decide +kernel, by decide +kernel⟩
abbrev s_l_take : Stmt := topS 47
abbrev N_l_take : List Str := ["_law_pot_here", "_law_upto", "_law_digit", "_law_prime", "_law_stirred"]
theorem sc_l_take : FnScope N_l_take ["_law_pot_here", "_law_upto"] (defScope s_l_take) := ⟨rfl, rfl, rfl, by decide +kernel, rfl, by decide +kernel, by decide +kernel⟩
abbrev s_l_pots : Stmt := topS 48
abbrev N_l_pots : List Str := ["_law_script", "_law_most", "_law_k"]
theorem sc_l_pots : FnScope N_l_pots ["_law_script", "_law_most"] (defScope s_l_pots) := ⟨rfl, rfl, rfl, by decide +kernel, rfl, by decide +kernel, by decide +kernel⟩
abbrev s_l_of : Stmt := topS 49
abbrev N_l_of : List Str := ["_law_pot_here", "_law_some"]
theorem sc_l_of : FnScope N_l_of ["_law_pot_here", "_law_some"] (defScope s_l_of) := ⟨rfl, rfl, rfl, by decide +kernel, rfl, by decide +kernel, by decide +kernel⟩
abbrev s_l_turned : Stmt := topS 50
abbrev N_l_turned : List Str := ["_law_pot_here", "_law_some", "_law_at", "_law_row"]
theorem sc_l_turned : FnScope N_l_turned ["_law_pot_here", "_law_some"] (defScope s_l_turned) := ⟨rfl, rfl, rfl, by decide +kernel, rfl, by decide +kernel, by decide +kernel⟩
abbrev s_l_names : Stmt := topS 51
abbrev N_l_names : List Str := ["_law_pot_here", "_law_many", "_law_small", "_law_stem", "_law_spot", "_law_at", "_law_found", "_law_turn", "_law_k"]
theorem sc_l_names : FnScope N_l_names ["_law_pot_here", "_law_many"] (defScope s_l_names) := ⟨rfl, rfl, rfl, by decide +kernel, rfl, by decide +kernel, by decide +kernel⟩
abbrev s_l_far : Stmt := topS 52
abbrev N_l_far : List Str := ["_law_pot_here"]
theorem sc_l_far : FnScope N_l_far ["_law_pot_here"] (defScope s_l_far) := ⟨rfl, rfl, rfl, by decide +kernel, rfl, by decide +kernel, by decide +kernel⟩
abbrev s_l_pairs : Stmt := topS 53
abbrev N_l_pairs : List Str := ["_law_pot_here", "_law_routers", "_law_many", "_law_order", "_law_found", "_law_is_joined", "_law_at", "_law_other", "_law_rest", "_law_a", "_law_b"]
theorem sc_l_pairs : FnScope N_l_pairs ["_law_pot_here", "_law_routers", "_law_many"] (defScope s_l_pairs) := ⟨rfl, rfl, rfl, by decide +kernel, rfl, by decide +kernel, by decide +kernel⟩
abbrev s_l_world : Stmt := topS 54
abbrev N_l_world : List Str := ["_law_pot_here", "_law_least", "_law_most", "_law_more", "_law_many", "_law_routers", "_law_pairs_here", "_law_links", "_law_is_even", "_law_a", "_law_b", "_law_there"]
theorem sc_l_world : FnScope N_l_world ["_law_pot_here", "_law_least", "_law_most", "_law_more"] (defScope s_l_world) := ⟨rfl, rfl, rfl, by decide +kernel, rfl, by decide +kernel, by decide +kernel⟩
abbrev s_l_made : Stmt := topS 55
abbrev N_l_made : List Str := ["_law_world_here"]
theorem sc_l_made : FnScope N_l_made ["_law_world_here"] (defScope s_l_made) := ⟨rfl, rfl, rfl, by decide +kernel, rfl, by decide +kernel, by decide +kernel⟩
abbrev s_l_lengths : Stmt := topS 56
abbrev N_l_lengths : List Str := ["_law_links", "_law_found", "_law_a", "_law_b", "_law_there", "_law_back"]
theorem sc_l_lengths : FnScope N_l_lengths ["_law_links"] (defScope s_l_lengths) := ⟨rfl, rfl, rfl, by decide +kernel, rfl, by decide +kernel, by decide +kernel⟩
abbrev s_l_with : Stmt := topS 57
abbrev N_l_with : List Str := ["_law_world_here", "_law_a", "_law_b", "_law_there", "_law_back", "_law_kept", "_law_link"]
theorem sc_l_with : FnScope N_l_with ["_law_world_here", "_law_a", "_law_b", "_law_there", "_law_back"] (defScope s_l_with) := ⟨rfl, rfl, rfl, by decide +kernel, rfl, by decide +kernel, by decide +kernel⟩
abbrev s_l_link_of : Stmt := topS 58
abbrev N_l_link_of : List Str := ["_law_pot_here", "_law_least", "_law_most", "_law_more", "_law_world_here", "_law_link"]
theorem sc_l_link_of : FnScope N_l_link_of ["_law_pot_here", "_law_least", "_law_most", "_law_more"] (defScope s_l_link_of) := ⟨rfl, rfl, rfl, by decide +kernel, rfl, by decide +kernel, by decide +kernel⟩
abbrev s_l_row_right : Stmt := topS 59
abbrev N_l_row_right : List Str := ["_law_net", "_law_a", "_law_b", "_law_pair", "_law_d", "_law_times", "_law_row", "_law_at", "_law_turns_of", "_law_number", "_law_t"]
theorem sc_l_row_right : FnScope N_l_row_right ["_law_net", "_law_a", "_law_b", "_law_pair", "_law_d", "_law_times"] (defScope s_l_row_right) := ⟨rfl, rfl, rfl, by decide +kernel, rfl, by decide +kernel, by decide +kernel⟩
abbrev s_l_case_right : Stmt := topS 60
abbrev N_l_case_right : List Str := ["_law_pot_here", "_law_world_here", "_law_a", "_law_b", "_law_net", "_law_link", "_law_pair", "_law_pairs_here", "_law_least", "_law_some", "_law_last", "_law_times", "_law_turn", "_law_one"]
theorem sc_l_case_right : FnScope N_l_case_right ["_law_pot_here"] (defScope s_l_case_right) := ⟨rfl, rfl, rfl, by decide +kernel, rfl, by decide +kernel, by decide +kernel⟩
abbrev s_l_law : Stmt := topS 61
abbrev N_l_law : List Str := ["_law_script", "_law_pot_here"]
theorem sc_l_law : FnScope N_l_law ["_law_script"] (defScope s_l_law) := ⟨rfl, rfl, rfl, by decide +kernel, rfl, by decide +kernel, by decide +kernel⟩
abbrev s_net_init : Stmt := inClass (topS 29) 0
abbrev N_net_init : List Str := ["self", "routers", "links"]
theorem sc_net_init : FnScope N_net_init ["self", "routers", "links"] (defScope s_net_init) := ⟨rfl, rfl, rfl, by decide +kernel, rfl, by decide +kernel, by decide +kernel⟩
abbrev s_net_routers : Stmt := inClass (topS 29) 1
abbrev N_net_routers : List Str := ["self"]
theorem sc_net_routers : FnScope N_net_routers ["self"] (defScope s_net_routers) := ⟨rfl, rfl, rfl, by decide +kernel, rfl, by decide +kernel, by decide +kernel⟩
abbrev s_net_links : Stmt := inClass (topS 29) 2
abbrev N_net_links : List Str := ["self"]
theorem sc_net_links : FnScope N_net_links ["self"] (defScope s_net_links) := ⟨rfl, rfl, rfl, by decide +kernel, rfl, by decide +kernel, by decide +kernel⟩
abbrev s_net_with_link : Stmt := inClass (topS 29) 5
abbrev N_net_with_link : List Str := ["self", "a", "b", "there", "back", "length", "kept", "link"]
theorem sc_net_with_link : FnScope N_net_with_link ["self", "a", "b", "there", "back"] (defScope s_net_with_link) := ⟨rfl, rfl, rfl, by decide +kernel, rfl, by decide +kernel, by decide +kernel⟩
abbrev s_net_without : Stmt := inClass (topS 29) 6
abbrev N_net_without : List Str := ["self", "a", "b", "link"]
theorem sc_net_without : FnScope N_net_without ["self", "a", "b"] (defScope s_net_without) := ⟨rfl, rfl, rfl, by decide +kernel, rfl, by decide +kernel, by decide +kernel⟩
abbrev s_ch_init : Stmt := inClass (topS 40) 0
abbrev N_ch_init : List Str := ["self", "net", "a", "b", "there", "back", "d"]
theorem sc_ch_init : FnScope N_ch_init ["self", "net", "a", "b"] (defScope s_ch_init) := ⟨rfl, rfl, rfl, by decide +kernel, rfl, by decide +kernel, by decide +kernel⟩
abbrev s_ch_detour : Stmt := inClass (topS 40) 1
abbrev N_ch_detour : List Str := ["self", "router", "d", "found", "near", "length", "far"]
theorem sc_ch_detour : FnScope N_ch_detour ["self", "router", "d"] (defScope s_ch_detour) := ⟨rfl, rfl, rfl, by decide +kernel, rfl, by decide +kernel, by decide +kernel⟩
abbrev s_ch_point : Stmt := inClass (topS 40) 2
abbrev N_ch_point : List Str := ["self", "router", "d", "over"]
theorem sc_ch_point : FnScope N_ch_point ["self", "router", "d"] (defScope s_ch_point) := ⟨rfl, rfl, rfl, by decide +kernel, rfl, by decide +kernel, by decide +kernel⟩
/-! ### what the top has written -/
structure GF (K : PySem.W.Frag) (mg : Str → Option Value) (x : Str) (st : Stmt) (ps : List Str) where
  f : Addr
  d : FuncData
  F : Fun K x x st f d
  g : mg x = some (.ref f)
  b : Binds K d ps []
structure GM (K : PySem.W.Frag) (x q : Str) (st : Stmt) (ps : List Str) where
  f : Addr
  d : FuncData
  F : Fun K x q st f d
  b : Binds K d ps []
structure TX (K : PySem.W.Frag) (mg : Str → Option Value) where
  is_integer : GF K mg "is_integer" s_is_integer ["value"]
  is_from : GF K mg "is_from" s_is_from ["value", "least"]
  is_name : GF K mg "is_name" s_is_name ["value"]
  is_one_of : GF K mg "is_one_of" s_is_one_of ["value", "some"]
  is_tuple_of : GF K mg "is_tuple_of" s_is_tuple_of ["value", "many"]
  is_tuple_to : GF K mg "is_tuple_to" s_is_tuple_to ["value", "most"]
  are_ascending : GF K mg "are_ascending" s_are_ascending ["things"]
  is_ascending_of : GF K mg "is_ascending_of" s_is_ascending_of ["value", "some"]
  are_routers : GF K mg "are_routers" s_are_routers ["value"]
  is_link : GF K mg "is_link" s_is_link ["value", "routers"]
  are_links : GF K mg "are_links" s_are_links ["value", "routers"]
  check_routers : GF K mg "check_routers" s_check_routers ["net", "values"]
  link_of : GF K mg "link_of" s_link_of ["net", "a", "b"]
  lengths_of : GF K mg "lengths_of" s_lengths_of ["net"]
  distances_to : GF K mg "distances_to" s_distances_to ["routers", "lengths", "d"]
  nexts_by : GF K mg "nexts_by" s_nexts_by ["routers", "lengths", "distances", "router"]
  tables_by : GF K mg "tables_by" s_tables_by ["routers", "lengths"]
  next_tables : GF K mg "next_tables" s_next_tables ["net"]
  nexts : GF K mg "nexts" s_nexts ["net", "a", "d"]
  shifted : GF K mg "shifted" s_shifted ["net", "a", "b", "t"]
  point : GF K mg "point" s_point ["net", "a", "b", "router", "d"]
  all_points : GF K mg "all_points" s_all_points ["change", "routers"]
  points : GF K mg "points" s_points ["net", "a", "b"]
  l_pot : GF K mg "_law_pot" s_l_pot ["_law_script", "_law_k"]
  l_take : GF K mg "_law_take" s_l_take ["_law_pot_here", "_law_upto"]
  l_pots : GF K mg "_law_pots" s_l_pots ["_law_script", "_law_most"]
  l_of : GF K mg "_law_of" s_l_of ["_law_pot_here", "_law_some"]
  l_turned : GF K mg "_law_turned" s_l_turned ["_law_pot_here", "_law_some"]
  l_names : GF K mg "_law_names" s_l_names ["_law_pot_here", "_law_many"]
  l_far : GF K mg "_law_far" s_l_far ["_law_pot_here"]
  l_pairs : GF K mg "_law_pairs" s_l_pairs ["_law_pot_here", "_law_routers", "_law_many"]
  l_world : GF K mg "_law_world" s_l_world ["_law_pot_here", "_law_least", "_law_most", "_law_more"]
  l_made : GF K mg "_law_made" s_l_made ["_law_world_here"]
  l_lengths : GF K mg "_law_lengths" s_l_lengths ["_law_links"]
  l_with : GF K mg "_law_with" s_l_with ["_law_world_here", "_law_a", "_law_b", "_law_there", "_law_back"]
  l_link_of : GF K mg "_law_link_of" s_l_link_of ["_law_pot_here", "_law_least", "_law_most", "_law_more"]
  l_row_right : GF K mg "_law_row_right" s_l_row_right ["_law_net", "_law_a", "_law_b", "_law_pair", "_law_d", "_law_times"]
  l_case_right : GF K mg "_law_case_right" s_l_case_right ["_law_pot_here"]
  l_law : GF K mg "law" s_l_law ["_law_script"]
  net_init : GM K "__init__" "Net.__init__" s_net_init ["self", "routers", "links"]
  net_routers : GM K "routers" "Net.routers" s_net_routers ["self"]
  net_links : GM K "links" "Net.links" s_net_links ["self"]
  net_with_link : GM K "with_link" "Net.with_link" s_net_with_link ["self", "a", "b", "there", "back"]
  net_without : GM K "without" "Net.without" s_net_without ["self", "a", "b"]
  ch_init : GM K "__init__" "Change.__init__" s_ch_init ["self", "net", "a", "b"]
  ch_detour : GM K "detour" "Change.detour" s_ch_detour ["self", "router", "d"]
  ch_point : GM K "point" "Change.point" s_ch_point ["self", "router", "d"]
  n_len : mg "len" = none
  n_zip : mg "zip" = none
  n_all : mg "all" = none
  n_isinstance : mg "isinstance" = none
  n_int : mg "int" = none
  n_bool : mg "bool" = none
  n_str : mg "str" = none
  n_tuple : mg "tuple" = none
  n_range : mg "range" = none
  n_list : mg "list" = none
  n_set : mg "set" = none
  n_sorted : mg "sorted" = none
  n_min : mg "min" = none
  n_max : mg "max" = none
  n_abs : mg "abs" = none
  n_enumerate : mg "enumerate" = none
  c_LETTERS : ∃ u, mg "LETTERS" = some u ∧ RelV (.str ("abcdefghijklmnopqrstuvwxyz" : Str)) u
  c_LONGEST_NAME : ∃ u, mg "LONGEST_NAME" = some u ∧ RelV (.int 8) u
  c_FEWEST_ROUTERS : ∃ u, mg "FEWEST_ROUTERS" = some u ∧ RelV (.int 2) u
  c_MOST_ROUTERS : ∃ u, mg "MOST_ROUTERS" = some u ∧ RelV (.int 8) u
  c_MOST_LINKS : ∃ u, mg "MOST_LINKS" = some u ∧ RelV (.int 16) u
  c_LINK : ∃ u, mg "LINK" = some u ∧ RelV (.int 4) u
  CN : Addr
  gN : mg "Net" = some (.ref CN)
  clN : Cls K CN
  nR : NoAttr K CN "own_routers"
  nL : NoAttr K CN "own_links"
  mkN : Mk K CN net_init.f
  pR : ∃ p, PropOf K CN "routers" p net_routers.f
  pL : ∃ p, PropOf K CN "links" p net_links.f
  mW : Meth K CN "with_link" net_with_link.f
  mO : Meth K CN "without" net_without.f
  CC : Addr
  gC : mg "Change" = some (.ref CC)
  clC : Cls K CC
  nN : NoAttr K CC "own_net"
  nP : NoAttr K CC "pair"
  nLe : NoAttr K CC "least"
  nLs : NoAttr K CC "lengths"
  nPl : NoAttr K CC "plain"
  nWo : NoAttr K CC "ways_over"
  mkC : Mk K CC ch_init.f
  mD : Meth K CC "detour" ch_detour.f
  mP : Meth K CC "point" ch_point.f
section
variable {K : PySem.W.Frag} {mg : Str → Option Value} {h : Heap}
def GF.mk' {x : Str} {st : Stmt} {ps : List Str} {f : Addr} {od an : Option Addr} {sl : Array (Option Value)} {oc kV dc pm cd ct : Value} (X : K.In h) (G : h.Ns mainGlobals mg)
    (a : PySem.W.nsIn K mainGlobals x = some (some (.ref f))) (l : K.lookup f = some ⟨oc, od, .func (PySem.W.fnOf x x (defArgs st) (defBody st) (defScope st) .none kV dc pm an cd ct), sl⟩) (c : PySem.W.codeIn K cd x = true)
    (k : PySem.W.keepIn K (.ref f) = true)
    (b : ∀ (kV doc pm : Value) (an : Option Addr) (cdv ct : Value) (us : List Value), us.length = ps.length → bindArgs (PySem.W.fnOf x x (defArgs st) (defBody st) (defScope st) .none kV doc pm an cdv ct) ⟨us, []⟩ = pure (ps.zip us)) :
    GF K mg x st ps := ⟨f, _, fun_mk l c k, PySem.W.mg_of X G a, (fun_mk l c k).binds b⟩
def GM.mk' {x q : Str} {st : Stmt} {ps : List Str} {f : Addr} {od an : Option Addr} {sl : Array (Option Value)} {oc kV dc pm cd ct : Value}
    (l : K.lookup f = some ⟨oc, od, .func (PySem.W.fnOf x q (defArgs st) (defBody st) (defScope st) .none kV dc pm an cd ct), sl⟩) (c : PySem.W.codeIn K cd q = true) (k : PySem.W.keepIn K (.ref f) = true)
    (b : ∀ (kV doc pm : Value) (an : Option Addr) (cdv ct : Value) (us : List Value), us.length = ps.length → bindArgs (PySem.W.fnOf x q (defArgs st) (defBody st) (defScope st) .none kV doc pm an cdv ct) ⟨us, []⟩ = pure (ps.zip us)) :
    GM K x q st ps := ⟨f, _, fun_mk l c k, (fun_mk l c k).binds b⟩
end
end QT
namespace QT
open PySem PySem.Spec PyProof.Rows L2 QS QR
open Evl (Ex)
/-! ### heaps -/
/-- all but what stands at p stays -/
def Exp (p : Addr) (H H' : Hp) : Prop := ∀ a o, a ≠ p → H a = some o → H' a = some o
theorem Exp.of {p : Addr} {H H' : Hp} (e : Ex H H') : Exp p H H' := fun a o _ h => e a o h
theorem Exp.refl (p : Addr) (H : Hp) : Exp p H H := fun _ _ _ h => h
theorem Exp.trans {p : Addr} {H H1 H2 : Hp} (a : Exp p H H1) (b : Exp p H1 H2) : Exp p H H2 := fun x o n h => b x o n (a x o n h)
theorem Exp.upd {p : Addr} {H H' : Hp} {o : HO} (e : Exp p H H') : Exp p H (upd H' p o) := fun a u n h => by rw [upd_ne n]; exact e a u n h
theorem Exp.new {p q : Addr} {H H' : Hp} {o : HO} (e : Exp p H H') (h : H' q = none) : Exp p H (L2.upd H' q o) := fun a u n ha => by
  have := e a u n ha
  rw [upd_ne (ne_of_none this h)]
  exact this
theorem ex_upd {H H' : Hp} {p : Addr} {o : HO} (e : Ex H H') (h : H p = none) : Ex H (upd H' p o) := e.mut h
/-! ### texts -/
abbrev slt (a b : Str) : Prop := a.cps.toList < b.cps.toList
theorem str_ext {a b : Str} (h : a.cps.toList = b.cps.toList) : a = b := PySem.W.str_of_cps h
theorem slt_irrefl (a : Str) : ¬ slt a a := List.lt_irrefl _
theorem slt_trans {a b c : Str} (h : slt a b) (g : slt b c) : slt a c := List.lt_trans h g
theorem slt_tri (a b : Str) : slt a b ∨ a = b ∨ slt b a := by
  rcases Classical.em (slt a b) with h | h
  · exact .inl h
  · rcases Classical.em (slt b a) with g | g
    · exact .inr (.inr g)
    · exact .inr (.inl (str_ext (List.le_antisymm (List.not_lt.mp g) (List.not_lt.mp h))))
/-- the names of a net: letters, at most eight -/
def NameOk (x : Str) : Prop := 1 ≤ x.length ∧ x.length ≤ 8 ∧ ∀ c ∈ x.cps.toList, 97 ≤ c ∧ c ≤ 122
structure NamesOk (ns : List Str) : Prop where
  least : 2 ≤ ns.length
  most : ns.length ≤ 8
  each : ∀ x ∈ ns, NameOk x
  asc : ns.Pairwise slt
theorem NamesOk.nodup {ns : List Str} (h : NamesOk ns) : ns.Nodup := h.asc.imp fun {a b} (q : slt a b) (e : a = b) => slt_irrefl b (by rw [e] at q; exact q)
/-! ### links -/
abbrev Lk := Str × Str × Int × Int
def LkOk (ns : List Str) (l : Lk) : Prop := l.1 ∈ ns ∧ l.2.1 ∈ ns ∧ slt l.1 l.2.1 ∧ 1 ≤ l.2.2.1 ∧ 1 ≤ l.2.2.2
/-- pairs ascend -/
def plt (l m : Lk) : Prop := slt l.1 m.1 ∨ (l.1 = m.1 ∧ slt l.2.1 m.2.1)
structure LinksOk (ns : List Str) (ls : List Lk) : Prop where
  most : ls.length ≤ 16
  each : ∀ l ∈ ls, LkOk ns l
  asc : ls.Pairwise plt
theorem plt_irrefl {l m : Lk} (h : plt l m) : ¬ (l.1 = m.1 ∧ l.2.1 = m.2.1) := fun ⟨e1, e2⟩ => by
  rcases h with h | ⟨_, h⟩
  · rw [e1] at h; exact slt_irrefl _ h
  · rw [e2] at h; exact slt_irrefl _ h
/-- a pair has one link -/
theorem LinksOk.one {ns : List Str} {ls : List Lk} (h : LinksOk ns ls) {l m : Lk} (hl : l ∈ ls) (hm : m ∈ ls) (e1 : l.1 = m.1) (e2 : l.2.1 = m.2.1) : l = m := by
  obtain ⟨i, hi, rfl⟩ := List.getElem_of_mem hl
  obtain ⟨j, hj, rfl⟩ := List.getElem_of_mem hm
  rcases Nat.lt_trichotomy i j with z | z | z
  · exact absurd ⟨e1, e2⟩ (plt_irrefl (List.pairwise_iff_getElem.mp h.asc i j hi hj z))
  · subst z; rfl
  · exact absurd ⟨e1.symm, e2.symm⟩ (plt_irrefl (List.pairwise_iff_getElem.mp h.asc j i hj hi z))
/-! ### in the heap -/
def lkV (l : Lk) : List V := [.str l.1, .str l.2.1, .int l.2.2.1, .int l.2.2.2]
def LinkAt (H : Hp) (q : Addr) (l : Lk) : Prop := H q = some (.tup (lkV l))
/-- the links at the addresses qs -/
abbrev LinksAt (H : Hp) (qs : List Addr) (ls : List Lk) : Prop := Paired (LinkAt H) qs ls
def fsN (R L : Addr) : List (Str × V) := [("own_routers", .ref R), ("own_links", .ref L)]
/-- a net at n -/
structure NetAt (C : Addr) (H : Hp) (n : Addr) (ns : List Str) (ls : List Lk) : Prop where
  ex : ∃ dx R L qs, H n = some (.ins C dx (fsN R L)) ∧ H R = some (.tup (ns.map V.str)) ∧ H L = some (.tup (qs.map V.ref)) ∧ LinksAt H qs ls
  names : NamesOk ns
  links : LinksOk ns ls
theorem linksAt_mono {H H' : Hp} {qs : List Addr} {ls : List Lk} (k : ∀ a xs, H a = some (.tup xs) → H' a = some (.tup xs)) (h : LinksAt H qs ls) : LinksAt H' qs ls := Paired.mapP h fun q l z => k q _ z
theorem NetAt.ex' {C : Addr} {H H' : Hp} {n : Addr} {ns : List Str} {ls : List Lk} (h : NetAt C H n ns ls) (e : Ex H H') : NetAt C H' n ns ls := by
  obtain ⟨dx, R, L, qs, a1, a2, a3, a4⟩ := h.ex
  exact ⟨⟨dx, R, L, qs, e _ _ a1, e _ _ a2, e _ _ a3, linksAt_mono (fun a xs z => e _ _ z) a4⟩, h.names, h.links⟩
/-- a list stands at p: what stands at p is no net -/
theorem NetAt.exp {C p : Addr} {xs : List V} {H H' : Hp} {n : Addr} {ns : List Str} {ls : List Lk} (h : NetAt C H n ns ls) (hp : H p = some (.lst xs)) (e : Exp p H H') : NetAt C H' n ns ls := by
  have ne : ∀ {a o}, H a = some o → (∀ xs, o ≠ .lst xs) → a ≠ p := fun ha no z => by rw [z, hp] at ha; exact no _ (Option.some.inj ha).symm
  obtain ⟨dx, R, L, qs, a1, a2, a3, a4⟩ := h.ex
  exact ⟨⟨dx, R, L, qs, e _ _ (ne a1 fun _ z => by cases z) a1, e _ _ (ne a2 fun _ z => by cases z) a2, e _ _ (ne a3 fun _ z => by cases z) a3, linksAt_mono (fun a xs z => e _ _ (ne z fun _ z => by cases z) z) a4⟩, h.names, h.links⟩
theorem Exp.tup {p a : Addr} {xs ys : List V} {H H' : Hp} (e : Exp p H H') (hp : H p = some (.lst xs)) (h : H a = some (.tup ys)) : H' a = some (.tup ys) := e a _ (ne_of h hp (by intro z; cases z)) h
theorem paired_get {α β : Type} {F : α → β → Prop} : ∀ {xs : List α} {ys : List β}, Paired F xs ys → ∀ (i : Nat) {x : α}, xs[i]? = some x → ∃ y, ys[i]? = some y ∧ F x y
  | _, _, .nil, _, _, h => by simp at h
  | _, _, .cons r _, 0, _, h => ⟨_, rfl, by rw [← Option.some.inj h]; exact r⟩
  | _, _, .cons _ t, i + 1, _, h => paired_get t i (by simpa using h)
theorem paired_len {α β : Type} {F : α → β → Prop} : ∀ {xs : List α} {ys : List β}, Paired F xs ys → xs.length = ys.length
  | _, _, .nil => rfl
  | _, _, .cons _ t => by rw [List.length_cons, List.length_cons, paired_len t]
theorem tyT {K : PySem.W.Frag} {H : Hp} {p : Addr} {xs : List V} (h : H p = some (.tup xs)) : SqT K H p xs := .inl (.inl h)
theorem tyL {K : PySem.W.Frag} {H : Hp} {p : Addr} {xs : List V} (h : H p = some (.lst xs)) : SqL K H p xs := .inl (.inl h)
theorem small {n : Nat} (h : n ≤ 100000) : n ≤ sizeLine := Evl.sz_of h
theorem smallT {n : Nat} (h : n < 100000) : n < sizeLine := Evl.sz_lt h
theorem sz0 : ([] : List V).length ≤ sizeLine := Nat.zero_le _
theorem sz1 {a : V} : [a].length ≤ sizeLine := by show 1 ≤ sizeLine; decide
theorem sz2 {a b : V} : [a, b].length ≤ sizeLine := by show 2 ≤ sizeLine; decide
theorem sz3 {a b c : V} : [a, b, c].length ≤ sizeLine := by show 3 ≤ sizeLine; decide
theorem sz4 {a b c d : V} : [a, b, c, d].length ≤ sizeLine := by show 4 ≤ sizeLine; decide
theorem boot_isi : bootBuiltins ("isinstance" : Str) = some (.builtin "isinstance") := by decide +kernel
theorem boot_all : bootBuiltins ("all" : Str) = some (.builtin "all") := by decide +kernel
theorem boot_int' : bootBuiltins ("int" : Str) = some (.type "int") := by decide +kernel
theorem boot_bool' : bootBuiltins ("bool" : Str) = some (.type "bool") := by decide +kernel
theorem boot_str' : bootBuiltins ("str" : Str) = some (.type "str") := by decide +kernel
theorem boot_tuple' : bootBuiltins ("tuple" : Str) = some (.type "tuple") := by decide +kernel
theorem boot_list' : bootBuiltins ("list" : Str) = some (.type "list") := by decide +kernel
theorem boot_set' : bootBuiltins ("set" : Str) = some (.type "set") := by decide +kernel
theorem boot_sorted' : bootBuiltins ("sorted" : Str) = some (.builtin "sorted") := by decide +kernel
theorem boot_min' : bootBuiltins ("min" : Str) = some (.builtin "min") := by decide +kernel
theorem boot_max' : bootBuiltins ("max" : Str) = some (.builtin "max") := by decide +kernel
theorem boot_abs' : bootBuiltins ("abs" : Str) = some (.builtin "abs") := by decide +kernel
theorem kit_ii {K : PySem.W.Frag} : PySem.W.kitOne K (.type "int") (.type "int") = some true := kit_ty (by decide +kernel)
theorem kit_ib {K : PySem.W.Frag} : PySem.W.kitOne K (.type "int") (.type "bool") = some false := kit_ty (by decide +kernel)
theorem kit_ss {K : PySem.W.Frag} : PySem.W.kitOne K (.type "str") (.type "str") = some true := kit_ty (by decide +kernel)
theorem kit_tt {K : PySem.W.Frag} : PySem.W.kitOne K (.type "tuple") (.type "tuple") = some true := kit_ty (by decide +kernel)
section
variable {X : Cx} {e : Expr} {t : TE} {p p2 pos : Pos}
/-- isinstance(e, T), T a built-in class -/
theorem p_isi {n : Str} {m : String} (n1 : X.mg "isinstance" = none) (n2 : X.mg n = none) (hv : bootBuiltins n = some (.type m)) (he : PE X e t) (hg : Gl X "isinstance" := by rfl) (hg2 : Gl X n := by rfl) (hn : n ≠ "__name__" := by decide) (hd : (n == ("__debug__" : Str)) = false := by decide)
    (hs : starEach [e, .Name n p2] X.env = (false, eval e X.env) :: starEach [.Name n p2] X.env := by rfl) :
    PE X (.Call (.Name "isinstance" p) [e, .Name n p2] [] pos) (tCB (rIsi X.K) (tCons t (tCons (tC (.ty m)) tNil))) :=
  pe_callB call_isi hg n1 boot_isi (pa_cons he (pa_cons (pe_bltn hg2 n2 hv rfl hn hd) pa_nil) hs) (he := hs)
end
/-- a call of a def of the text -/
theorem GF.call {K : PySem.W.Frag} {mg : Str → Option Value} {x : Str} {st : Stmt} {ps : List Str} (g : GF K mg x st ps) {X : Cx} {k : Nat} {sp : Sp} {e : Expr} {es : List Expr} {t : TA} {p pos : Pos} (F : FnOk X.prog X.w X.K X.mg X.base CX0 k g.f g.d ps sp) (hr : Room k X.A) (ha : PA X (e :: es) t)
    (hK : X.K = K := by rfl) (hm : X.mg = mg := by rfl) (hg : Gl X x := by rfl)
    (hdb : (x == ("__debug__" : Str)) = false := by decide) (he : starEach (e :: es) X.env = (false, eval e X.env) :: starEach es X.env := by rfl) (hpl : (backTo pos (starEach es X.env)).any (·.1) = false := by rfl) :
    PE X (.Call (.Name x p) (e :: es) [] pos) (tCall sp [] E0 t) := by
  subst hK
  subst hm
  exact pe_call F hr hg g.g g.F.kp g.b .nil pass0 ha hdb he hpl
theorem ex_of_same {H H' : Hp} (h : Same H H') : Ex H H' := h
end QT
/-! comprehensions whose items are known -/
namespace QT
open PySem PySem.Spec PyProof.Rows L2 QS QR
open Evl (Ex)
open Evl (given given_yes given_no given_len)
theorem lcF {J : It} {n : Nat} {G : Hp → Prop} {Y : Nat → Hp → V → Hp → Prop} (w : Walk J n G Y) (hn : n ≤ 1000) {g : TG} {tt : TT} {te : TE} {vs : List Nat} {σ : L2.St} {H1 : Hp} {D : Addr} {Qd : Hp → Prop} (f : Nat → Bool) (v : Nat → V) (hD : H1 D = none) (hG : ∀ H', Ex H1 H' → G H')
    (hs : ∀ i x H H', i < n → Ex H1 H → Y i H x H' → ∀ (RT : VK) (RF : Hp → Prop), (f i = true → ∀ H'', Ex H H'' → RT (v i) H'') → (f i = false → ∀ H'', Ex H H'' → RF H'') →
      g x (wipe σ vs) H' fun σ2 H2 => wipe σ2 vs = wipe σ vs ∧ tt σ2 H2 fun b H3 => if b = true then te σ2 H3 RT else RF H3)
    (hd : ∀ H', Ex H1 H' → H' D = some (.lst (given n f v)) → Qd H') :
    ∃ W : Nat → Nat → Hp → Prop, (∃ m, W 0 m (upd H1 D (.lst []))) ∧ ∀ i m H, W i m H →
      (J.stop i H ∧ Qd H) ∨ (J.go i H ∧ ∃ Nx : Hp → Prop, (∀ H', Nx H' → ∃ m', m' < m ∧ W (i + 1) m' H') ∧ ∀ x H', J.yld i H x H' → g x (wipe σ vs) H' fun σ2 H2 => wipe σ2 vs = wipe σ vs ∧ tt σ2 H2 fun b H3 =>
        if b = true then te σ2 H3 fun y H4 => ∃ acc, H4 D = some (.lst acc) ∧ acc.length < sizeLine ∧ Nx (upd H4 D (.lst (acc ++ [y]))) else Nx H3) := by
  refine lc_it w (fun i H' => Ex H1 H' ∧ H' D = some (.lst (given i f v))) ⟨Ex.new hD, by rw [upd_same]; rfl⟩ (fun i H' _ p => hG H' p.1) (fun i x H H' hi p y => ?_) (fun H' p => hd H' p.1 p.2)
  refine hs i x H H' hi p.1 y _ _ (fun ft H'' e => ?_) (fun ff H'' e => ?_)
  · refine ⟨given i f v, e _ _ p.2, smallT (by have := given_len i f v; omega), ex_upd (p.1.trans e) hD, ?_⟩
    rw [upd_same, given_yes ft]
  · refine ⟨p.1.trans e, ?_⟩
    rw [e _ _ p.2, given_no ff]
/-- no test -/
theorem lcV {J : It} {n : Nat} {G : Hp → Prop} {Y : Nat → Hp → V → Hp → Prop} (w : Walk J n G Y) (hn : n ≤ 1000) {g : TG} {te : TE} {vs : List Nat} {σ : L2.St} {H1 : Hp} {D : Addr} {Qd : Hp → Prop} (v : Nat → V) (hD : H1 D = none) (hG : ∀ H', Ex H1 H' → G H')
    (hs : ∀ i x H H', i < n → Ex H1 H → Y i H x H' → ∀ (RT : VK), (∀ H'', Ex H H'' → RT (v i) H'') → g x (wipe σ vs) H' fun σ2 H2 => wipe σ2 vs = wipe σ vs ∧ te σ2 H2 RT)
    (hd : ∀ H', Ex H1 H' → H' D = some (.lst ((List.range n).map v)) → Qd H') :
    ∃ W : Nat → Nat → Hp → Prop, (∃ m, W 0 m (upd H1 D (.lst []))) ∧ ∀ i m H, W i m H →
      (J.stop i H ∧ Qd H) ∨ (J.go i H ∧ ∃ Nx : Hp → Prop, (∀ H', Nx H' → ∃ m', m' < m ∧ W (i + 1) m' H') ∧ ∀ x H', J.yld i H x H' → g x (wipe σ vs) H' fun σ2 H2 => wipe σ2 vs = wipe σ vs ∧ tYes σ2 H2 fun b H3 =>
        if b = true then te σ2 H3 fun y H4 => ∃ acc, H4 D = some (.lst acc) ∧ acc.length < sizeLine ∧ Nx (upd H4 D (.lst (acc ++ [y]))) else Nx H3) := by
  refine lcF w hn (fun _ => true) v hD hG (fun i x H H' hi e y RT RF h1 _ => hs i x H H' hi e y RT (h1 rfl)) (fun H' e h => hd H' e ?_)
  rw [h]
  unfold given
  rw [List.filter_eq_self.mpr fun _ _ => rfl]
theorem inV_str (x : Str) (xs : List Str) : inV (.str x) (xs.map V.str) = decide (x ∈ xs) := by
  induction xs with
  | nil => rfl
  | cons y xs ih =>
    show ((y == x) || inV (.str x) (xs.map V.str)) = _
    rw [ih, Bool.eq_iff_iff, Bool.or_eq_true, beq_iff_eq, decide_eq_true_eq, decide_eq_true_eq, List.mem_cons]
    exact or_congr_left eq_comm
theorem flat_strs (xs : List Str) : (xs.map V.str).all flatV = true := by
  rw [List.all_map, List.all_eq_true]
  intro x _
  rfl
theorem all_rep (n : Nat) : ((List.range n).map fun _ => true).all id = true := by
  rw [List.all_map, List.all_eq_true]
  intro x _
  rfl
end QT
namespace QT
open PySem PySem.Spec PyProof.Rows L2 QS QR
open Evl (Ex)
section
variable {P : Program} {w : World} {K : PySem.W.Frag} {mg : Str → Option Value} {base : Heap}
/-! ### is_integer, is_from -/
def sp_is_integer : Sp := fun vs H Q _ => ∃ i, vs = [.int i] ∧ Q (.bl true) H
theorem ok_is_integer (T : TX K mg) : FnOk P w K mg base CX0 1 T.is_integer.f T.is_integer.d ["value"] sp_is_integer := by
  refine T.is_integer.F.ok sc_is_integer (fun vs H Q E h => ?_) (fun cdv A outer s H vs Q E hr h => ?_)
  · obtain ⟨i, rfl, _⟩ := h
    rfl
  · obtain ⟨i, rfl, q⟩ := h
    refine ⟨_, pss_one (ps_ret (pe_and (p_isi T.n_isinstance T.n_int boot_int' (pv 0)) (pe_one (pe_not (p_isi T.n_isinstance T.n_bool boot_bool' (pv 0)))))), ?_⟩
    exact ⟨_, rfl, _, _, _, _, _, rfl, .ty "int", .base (.int i), kit_ii, true, rfl, _, rfl, _, _, _, _, _, rfl, .ty "bool", .base (.int i), kit_ib, false, rfl, q⟩
def sp_is_from : Sp := fun vs H Q _ => ∃ i m, vs = [.int i, .int m] ∧ Q (.bl (decide (m ≤ i))) H
theorem ok_is_from (T : TX K mg) : FnOk P w K mg base CX0 2 T.is_from.f T.is_from.d ["value", "least"] sp_is_from := by
  have G : FnOk P w K mg base CX0 1 T.is_integer.f T.is_integer.d ["value"] sp_is_integer := ok_is_integer T
  refine T.is_from.F.ok sc_is_from (fun vs H Q E h => ?_) (fun cdv A outer s H vs Q E hr h => ?_)
  · obtain ⟨i, m, rfl, _⟩ := h
    rfl
  · obtain ⟨i, m, rfl, q⟩ := h
    refine ⟨_, pss_one (ps_ret (pe_and (T.is_integer.call G hr (pa_cons (pv 0) pa_nil)) (pe_one (pe_cmpR op_ge (pv 0) (pv 1) (nomark _))))), ?_⟩
    exact ⟨_, rfl, i, rfl, true, rfl, _, rfl, _, rfl, _, _, rfl, rfl, q⟩
/-! ### is_name -/
theorem letters_mem : ∀ c, c ≤ 122 → 97 ≤ c → c ∈ (Str.ofString "abcdefghijklmnopqrstuvwxyz").cps.toList := by
  have h : ∀ c, c < 123 → 97 ≤ c → c ∈ (Str.ofString "abcdefghijklmnopqrstuvwxyz").cps.toList := by decide +kernel
  exact fun c a b => h c (by omega) b
def sp_is_name : Sp := fun vs H Q _ => ∃ x, vs = [.str x] ∧ NameOk x ∧ ∀ H', Ex H H' → Q (.bl true) H'
theorem ok_is_name (T : TX K mg) : FnOk P w K mg base CX0 1 T.is_name.f T.is_name.d ["value"] sp_is_name := by
  refine T.is_name.F.ok sc_is_name (fun vs H Q E h => ?_) (fun cdv A outer s H vs Q E hr h => ?_)
  · obtain ⟨x, rfl, _⟩ := h
    rfl
  · obtain ⟨x, rfl, nk, q⟩ := h
    obtain ⟨uL, gL, rL⟩ := T.c_LETTERS
    obtain ⟨uN, gN, rN⟩ := T.c_LONGEST_NAME
    refine ⟨_, pss_cons (ps_if (PW.pt (pw_or (pt_not (pt_val (p_isi T.n_isinstance T.n_str boot_str' (pv 0)))) (pw_or1 (pt_not (pt_chain op_le op_le pe_int (pe_callB call_len_str (by rfl) T.n_len PySem.boot_len (pa_cons (pv 0) pa_nil)) (pe_glob (by rfl) gN rN)))))) (pss_one (ps_ret pe_bl)) pss_nil)
      (pss_one (ps_ret (pe_callB (cr_all rfl) (by rfl) T.n_all boot_all (pa_cons (pe_lc (own := [("sign", 1)]) (g := gName 1) (tt := tYes) rfl sc_is_name.nd (pi_str (pv 0)) (blkOk_by (own := [("sign", 1)]) (N := N_is_name) (sc := defScope s_is_name) (by decide +kernel))
        (fun _ _ _ _ _ => pg_name (i := 1) sc_is_name.nd rfl (.inl rfl)) (fun _ _ _ _ _ => pts_nil) (fun _ _ _ _ _ => pe_cmpR op_in_sign (pv 1) (pe_glob (by rfl) gL rL) rfl)) pa_nil)))), ?_⟩
    have h8 : x.length ≤ sizeLine := Nat.le_trans nk.2.1 (by decide)
    refine ⟨_, rfl, _, _, _, _, _, rfl, .ty "str", .base (.str x), kit_ss, true, rfl, iteF ?_⟩
    refine ⟨_, rfl, x, rfl, h8, 1, x.length, rfl, rfl, true, congrArg V.bl (decide_eq_true (by have := nk.1; omega)), ?_⟩
    refine iteT ⟨x.length, 8, rfl, rfl, true, congrArg V.bl (decide_eq_true (by have := nk.2.1; omega)), iteF ?_⟩
    refine ⟨_, rfl, x, rfl, fun D hD => lc_it walk_str (fun i H' => Ex H H' ∧ H' D = some (.lst ((List.replicate i true).map V.bl))) ⟨Ex.new hD, upd_same⟩ (fun _ _ _ _ => trivial) (fun i v H1 H1' hi p y => ?_) (fun H1 p => ?_)⟩
    · obtain ⟨p1, p2⟩ := p
      obtain ⟨rfl, c, hc, rfl⟩ := y
      have hm : c ∈ x.cps.toList := by
        rw [← Array.getElem?_toList] at hc
        exact List.mem_of_getElem? hc
      have il : i < 8 := Nat.lt_of_lt_of_le hi nk.2.1
      have eb : decide (c ∈ (Str.ofString "abcdefghijklmnopqrstuvwxyz").cps.toList) = true := decide_eq_true (letters_mem c (nk.2.2 c hm).2 (nk.2.2 c hm).1)
      refine ⟨rfl, _, rfl, c, _, rfl, rfl, _, p2, smallT (by rw [List.length_map, List.length_replicate]; omega), ex_upd p1 hD, ?_⟩
      rw [eb, upd_same, List.replicate_succ', List.map_append]
      rfl
    · obtain ⟨p1, p2⟩ := p
      refine ⟨D, List.replicate x.cps.size true, rfl, tyL p2, ?_⟩
      rw [show (List.replicate x.cps.size true).all id = true by simp]
      exact q H1 p1
end
end QT
namespace QT
open PySem PySem.Spec PyProof.Rows L2 QS QR
open Evl (Ex)
section
variable {P : Program} {w : World} {K : PySem.W.Frag} {mg : Str → Option Value} {base : Heap}
/-! ### is_one_of, is_tuple_of, is_tuple_to -/
def sp_is_one_of : Sp := fun vs H Q _ => ∃ (x : Str) (p : Addr) (xs : List Str), vs = [.str x, .ref p] ∧ H p = some (.tup (xs.map V.str)) ∧ Q (.bl (decide (x ∈ xs))) H
theorem ok_is_one_of (T : TX K mg) : FnOk P w K mg base CX0 1 T.is_one_of.f T.is_one_of.d ["value", "some"] sp_is_one_of := by
  refine T.is_one_of.F.ok sc_is_one_of (fun vs H Q E h => ?_) (fun cdv A outer s H vs Q E hr h => ?_)
  · obtain ⟨x, p, xs, rfl, _⟩ := h
    rfl
  · obtain ⟨x, p, xs, rfl, hp, q⟩ := h
    refine ⟨_, pss_one (ps_ret (pe_and (p_isi T.n_isinstance T.n_str boot_str' (pv 0)) (pe_one (pe_cmpR op_in_seq (pv 0) (pv 1) rfl)))), ?_⟩
    refine ⟨_, rfl, _, _, _, _, _, rfl, .ty "str", .base (.str x), kit_ss, true, rfl, _, rfl, _, rfl, p, _, rfl, .inr (tyT hp), rfl, flat_strs xs, ?_⟩
    rw [← inV_str] at q
    exact q
def sp_is_tuple_of : Sp := fun vs H Q _ => ∃ (p : Addr) (xs : List V) (m : Int), vs = [.ref p, .int m] ∧ H p = some (.tup xs) ∧ Q (.bl (decide ((xs.length : Int) = m))) H
theorem ok_is_tuple_of (T : TX K mg) : FnOk P w K mg base CX0 1 T.is_tuple_of.f T.is_tuple_of.d ["value", "many"] sp_is_tuple_of := by
  refine T.is_tuple_of.F.ok sc_is_tuple_of (fun vs H Q E h => ?_) (fun cdv A outer s H vs Q E hr h => ?_)
  · obtain ⟨p, xs, m, rfl, _⟩ := h
    rfl
  · obtain ⟨p, xs, m, rfl, hp, q⟩ := h
    refine ⟨_, pss_one (ps_ret (pe_and (p_isi T.n_isinstance T.n_tuple boot_tuple' (pv 0)) (pe_one (pe_cmpR op_eq (pe_callB call_len_seq (by rfl) T.n_len PySem.boot_len (pa_cons (pv 0) pa_nil)) (pv 1) (nomark _))))), ?_⟩
    refine ⟨_, rfl, _, _, _, _, _, rfl, .ty "tuple", .base (.tup hp), kit_tt, true, rfl, _, rfl, p, _, rfl, .inr (tyT hp), _, rfl, rfl, ?_⟩
    rw [dec_int]
    have e : ((xs.length : Int) == m) = decide ((xs.length : Int) = m) := by rw [Bool.eq_iff_iff]; simp
    rw [e]
    exact q
def sp_is_tuple_to : Sp := fun vs H Q _ => ∃ (p : Addr) (xs : List V) (m : Int), vs = [.ref p, .int m] ∧ H p = some (.tup xs) ∧ Q (.bl (decide ((xs.length : Int) ≤ m))) H
theorem ok_is_tuple_to (T : TX K mg) : FnOk P w K mg base CX0 1 T.is_tuple_to.f T.is_tuple_to.d ["value", "most"] sp_is_tuple_to := by
  refine T.is_tuple_to.F.ok sc_is_tuple_to (fun vs H Q E h => ?_) (fun cdv A outer s H vs Q E hr h => ?_)
  · obtain ⟨p, xs, m, rfl, _⟩ := h
    rfl
  · obtain ⟨p, xs, m, rfl, hp, q⟩ := h
    refine ⟨_, pss_one (ps_ret (pe_and (p_isi T.n_isinstance T.n_tuple boot_tuple' (pv 0)) (pe_one (pe_cmpR op_le (pe_callB call_len_seq (by rfl) T.n_len PySem.boot_len (pa_cons (pv 0) pa_nil)) (pv 1) (nomark _))))), ?_⟩
    exact ⟨_, rfl, _, _, _, _, _, rfl, .ty "tuple", .base (.tup hp), kit_tt, true, rfl, _, rfl, p, _, rfl, .inr (tyT hp), _, rfl, _, _, rfl, rfl, q⟩
/-! ### are_ascending: texts, or pairs of texts, each less than the next -/
def Asc (ds : List PyData) : Prop := ∀ (i : Nat) (d e : PyData), ds[i]? = some d → ds[i + 1]? = some e → PySem.W.alike d e = true ∧ d ≠ .none ∧ d.depth ≤ 32 ∧ PySem.W.dataLt d e = true
def sp_are_ascending (K : PySem.W.Frag) : Sp := fun vs H Q _ => ∃ (p : Addr) (xs : List V) (ds : List PyData), vs = [.ref p] ∧ ((H p = some (.tup xs) ∧ 1 ≤ xs.length) ∨ H p = some (.lst xs)) ∧ DpAll K H xs ds ∧ xs.length ≤ 100 ∧ Asc ds ∧ ∀ H', Ex H H' → Q (.bl true) H'
theorem dpAll_len {H : Hp} : ∀ {xs : List V} {ds : List PyData}, DpAll K H xs ds → xs.length = ds.length
  | _, _, .nil => rfl
  | _, _, .cons _ t => by rw [List.length_cons, List.length_cons, dpAll_len t]
theorem dpAll_get {H : Hp} : ∀ {xs : List V} {ds : List PyData}, DpAll K H xs ds → ∀ (i : Nat) {x : V}, xs[i]? = some x → ∃ d, ds[i]? = some d ∧ Dp K H x d
  | _, _, .nil, _, _, h => by simp at h
  | _, _, .cons r _, 0, _, h => ⟨_, rfl, by rw [← Option.some.inj h]; exact r⟩
  | _, _, .cons _ t, i + 1, _, h => dpAll_get t i (by simpa using h)
mutual
theorem Dp.mono {H H' : Hp} (e : Ex H H') : ∀ {v : V} {d : PyData}, Dp K H v d → Dp K H' v d
  | _, _, .non => .non
  | _, _, .bl b => .bl b
  | _, _, .int i => .int i
  | _, _, .str x => .str x
  | _, _, .lst h a => .lst (Evl.ex_l e h) (DpAll.mono e a)
  | _, _, .tup h a => .tup (Evl.ex_t e h) (DpAll.mono e a)
theorem DpAll.mono {H H' : Hp} (e : Ex H H') : ∀ {xs : List V} {ds : List PyData}, DpAll K H xs ds → DpAll K H' xs ds
  | _, _, .nil => .nil
  | _, _, .cons a b => .cons (Dp.mono e a) (DpAll.mono e b)
end
theorem cut1 (xs : List V) : cutV xs (some 1) none = xs.drop 1 := by
  unfold cutV
  rw [show HT.sIx xs.length 0 (some 1) = min 1 xs.length from HT.sIx_nat xs.length 0 1, HT.sIx_none]
  cases xs with
  | nil => rfl
  | cons x r =>
    rw [show min 1 (x :: r).length = 1 by rw [List.length_cons]; omega]
    show List.take ((x :: r).length - 1) r = r
    rw [List.length_cons, Nat.add_sub_cancel]
    exact List.take_length
theorem walk_zipT {a b : Addr} {xs ys : List V} {n : Nat} (hn : n = min xs.length ys.length) : Walk (RZ.ItzT K a b) n (fun H => SqT K H a xs ∧ SqT K H b ys) (YPair (fun i => xs[i]?) (fun i => ys[i]?)) where
  goes := fun i H hi q => ⟨xs, ys, xs[i]'(by omega), ys[i]'(by omega), q.1, q.2, by simp, by simp⟩
  stops := fun H q => ⟨xs, ys, q.1, q.2, by omega⟩
  yields := fun i H v H' hi q y => by
    obtain ⟨T, x, y, e1, e2, e3, e4, e5⟩ := y
    exact ⟨T, x, y, e1, e2, e3, e4 xs q.1, e5 ys q.2⟩
theorem ok_are_ascending (T : TX K mg) : FnOk P w K mg base CX0 1 T.are_ascending.f T.are_ascending.d ["things"] (sp_are_ascending K) := by
  refine T.are_ascending.F.ok sc_are_ascending (fun vs H Q E h => ?_) (fun cdv A outer s H vs Q E hr h => ?_)
  · obtain ⟨p, xs, ds, rfl, _⟩ := h
    rfl
  · obtain ⟨p, xs, ds, rfl, hp, hd, hl, asc, q⟩ := h
    refine ⟨_, pss_one (ps_ret (pe_callB (cr_all rfl) (by rfl) T.n_all boot_all (pa_cons (pe_lc (own := [("one", 1), ("other", 2)]) (g := gTup K 2 (gCons (gName 1) (gCons (gName 2) gNil))) (tt := tYes) (te := tOp (rLtD K) (tVar 1) (tVar 2)) rfl sc_are_ascending.nd
        (RZ.pi_zipA (by rfl) T.n_zip (pa_cons (pv 0) (pa_cons (pe_slice (SlR.or sl_list sl_tup) (pv 0) (po_some pe_int) po_none) pa_nil)))
        (blkOk_by (own := [("one", 1), ("other", 2)]) (N := N_are_ascending) (sc := defScope s_are_ascending) (by decide +kernel))
        (fun _ _ _ _ _ => pg_tup rfl (pgs_cons (pg_name (i := 1) sc_are_ascending.nd rfl (.inl rfl)) (pgs_cons (pg_name (i := 2) sc_are_ascending.nd rfl (.inl rfl)) pgs_nil)))
        (fun _ _ _ _ _ => pts_nil) (fun _ _ _ _ _ => pe_cmpR (op_ltD hr.units) (pv 1) (pv 2) (nomark _))) pa_nil))), ?_⟩
    have dl := dpAll_len hd
    have turn : ∀ (H1 : Hp) (T : Addr) (x y : V) (i : Nat), Ex H H1 → H1 T = none → xs[i]? = some x → xs[i + 1]? = some y → ∀ RT : VK, (∀ H'', Ex H1 H'' → RT (.bl true) H'') →
        gTup K 2 (gCons (gName 1) (gCons (gName 2) gNil)) (.ref T) (wipe (L2.start N_are_ascending [V.ref p]) [1, 2]) (upd H1 T (.tup [x, y])) fun σ2 H2 => wipe σ2 [1, 2] = wipe (L2.start N_are_ascending [V.ref p]) [1, 2] ∧ tOp (rLtD K) (tVar 1) (tVar 2) σ2 H2 RT := by
      intro H1 T x y i e1 nT hx hy RT r
      obtain ⟨d, hd1, hd2⟩ := dpAll_get hd i hx
      obtain ⟨d', he1, he2⟩ := dpAll_get hd (i + 1) hy
      obtain ⟨a1, a2, a3, a4⟩ := asc i d d' hd1 he1
      have eT : Ex H1 (upd H1 T (.tup [x, y])) := Ex.new nT
      refine ⟨T, [x, y], rfl, .inl (.inl upd_same), rfl, x, [y], rfl, y, [], rfl, rfl, rfl, _, rfl, _, rfl, d, d', Dp.mono (e1.trans eT) hd2, Dp.mono (e1.trans eT) he2, a1, a2, a3, ?_⟩
      rw [a4]
      exact r _ eT
    have len1 : (xs.drop 1).length = xs.length - 1 := by rw [List.length_drop]
    have get1 : ∀ i, (xs.drop 1)[i]? = xs[i + 1]? := fun i => by rw [List.getElem?_drop, Nat.add_comm]
    have fin : ∀ (H1 H' : Hp) (D : Addr), Ex H H1 → Ex H1 H' → H' D = some (.lst ((List.range (xs.length - 1)).map fun _ => V.bl true)) → rAll K [.ref D] H' Q := fun H1 H' D e1 e2 hD => by
      refine ⟨D, (List.range (xs.length - 1)).map fun _ => true, rfl, tyL (by rw [hD, List.map_map]; rfl), ?_⟩
      rw [all_rep]
      exact q H' (e1.trans e2)
    rcases hp with ⟨hp, h1⟩ | hp
    · refine ⟨_, rfl, _, rfl, 1, rfl, .inr ⟨p, xs, rfl, tyT hp, ?_, fun c nc => ?_⟩⟩
      · rw [show HT.sIx xs.length 0 (some 1) = min 1 xs.length from HT.sIx_nat xs.length 0 1]
        omega
      · rw [cut1]
        have e1 : Ex H (upd H c (.tup (xs.drop 1))) := Ex.new nc
        refine ⟨p, c, xs, xs.drop 1, rfl, .inr ⟨tyT (e1 _ _ hp), tyT upd_same, fun D hD => lcV (walk_zipT (n := xs.length - 1) (by rw [len1]; omega)) (by omega) (fun _ => V.bl true) hD (fun H' e => ⟨tyT (e _ _ (e1 _ _ hp)), tyT (e _ _ upd_same)⟩) (fun i x H2 H2' hi e y RT r => ?_) (fun H' e hD' => fin _ H' D e1 e hD')⟩⟩
        obtain ⟨Tq, u, v, rfl, nT, rfl, g1, g2⟩ := y
        exact turn H2 Tq u v i (e1.trans e) nT g1 ((get1 i).symm.trans g2) RT r
    · refine ⟨_, rfl, _, rfl, 1, rfl, .inl ⟨p, xs, rfl, tyL hp, fun c nc => ?_⟩⟩
      rw [cut1]
      have e1 : Ex H (upd H c (.lst (xs.drop 1))) := Ex.new nc
      refine ⟨p, c, xs, xs.drop 1, rfl, .inl ⟨tyL (e1 _ _ hp), tyL upd_same, fun D hD => lcV (walk_zip (n := xs.length - 1) (by rw [len1]; omega)) (by omega) (fun _ => V.bl true) hD (fun H' e => ⟨tyL (e _ _ (e1 _ _ hp)), tyL (e _ _ upd_same)⟩) (fun i x H2 H2' hi e y RT r => ?_) (fun H' e hD' => fin _ H' D e1 e hD')⟩⟩
      obtain ⟨Tq, u, v, rfl, nT, rfl, g1, g2⟩ := y
      exact turn H2 Tq u v i (e1.trans e) nT g1 ((get1 i).symm.trans g2) RT r
end
end QT
namespace QT
open PySem PySem.Spec PyProof.Rows L2 QS QR
open Evl (Ex)
section
variable {P : Program} {w : World} {K : PySem.W.Frag} {mg : Str → Option Value} {base : Heap}
theorem dp_strs {H : Hp} : ∀ xs : List Str, DpAll K H (xs.map V.str) (xs.map PyData.str)
  | [] => .nil
  | x :: xs => .cons (.str x) (dp_strs xs)
theorem asc_strs {xs : List Str} (h : xs.Pairwise slt) : Asc (xs.map PyData.str) := by
  intro i d e hd he
  rw [List.getElem?_map] at hd he
  cases h1 : xs[i]? with
  | none => rw [h1] at hd; cases hd
  | some x =>
    cases h2 : xs[i + 1]? with
    | none => rw [h2] at he; cases he
    | some y =>
      rw [h1] at hd
      rw [h2] at he
      obtain rfl : PyData.str x = d := Option.some.inj hd
      obtain rfl : PyData.str y = e := Option.some.inj he
      obtain ⟨l1, e1⟩ := List.getElem?_eq_some_iff.mp h1
      obtain ⟨l2, e2⟩ := List.getElem?_eq_some_iff.mp h2
      have := List.pairwise_iff_getElem.mp h i (i + 1) l1 l2 (Nat.lt_succ_self i)
      rw [e1, e2] at this
      refine ⟨rfl, (fun q => nomatch q), (by simp [PyData.depth]), ?_⟩
      rw [PySem.W.dataLt_str]
      exact decide_eq_true this
/-- a pair of texts as data -/
abbrev prT (l : Lk) : PyData := .tuple [.str l.1, .str l.2.1]
theorem asc_pairs {ls : List Lk} (h : ls.Pairwise plt) : Asc (ls.map prT) := by
  intro i d e hd he
  rw [List.getElem?_map] at hd he
  cases h1 : ls[i]? with
  | none => rw [h1] at hd; cases hd
  | some x =>
    cases h2 : ls[i + 1]? with
    | none => rw [h2] at he; cases he
    | some y =>
      rw [h1] at hd
      rw [h2] at he
      obtain rfl : prT x = d := Option.some.inj hd
      obtain rfl : prT y = e := Option.some.inj he
      obtain ⟨l1, e1⟩ := List.getElem?_eq_some_iff.mp h1
      obtain ⟨l2, e2⟩ := List.getElem?_eq_some_iff.mp h2
      have pl := List.pairwise_iff_getElem.mp h i (i + 1) l1 l2 (Nat.lt_succ_self i)
      rw [e1, e2] at pl
      refine ⟨by simp [PySem.W.alike, PySem.W.alikeAll], (fun q => nomatch q), by simp [PyData.depth, PyData.depthAll], ?_⟩
      rw [PySem.W.dataLt_pair (by simp [PySem.W.alike]) (by simp [PySem.W.alike]), PySem.W.dataLt_str, PySem.W.dataLt_str]
      rcases pl with z | ⟨z1, z2⟩
      · have ne : PyData.eqv (.str x.1) (.str y.1) = false := by
          simp only [PyData.eqv, beq_eq_false_iff_ne]
          intro q
          rw [q] at z
          exact slt_irrefl _ z
        rw [ne, if_neg Bool.false_ne_true]
        exact decide_eq_true z
      · have eq : PyData.eqv (.str x.1) (.str y.1) = true := by simp [PyData.eqv, z1]
        have ne : PyData.eqv (.str x.2.1) (.str y.2.1) = false := by
          simp only [PyData.eqv, beq_eq_false_iff_ne]
          intro q
          rw [q] at z2
          exact slt_irrefl _ z2
        rw [eq, if_pos rfl, ne, if_neg Bool.false_ne_true]
        exact decide_eq_true z2
/-! ### is_ascending_of: a tuple of texts that are some of the given, ascending -/
def sp_is_ascending_of : Sp := fun vs H Q _ => ∃ (p r : Addr) (xs ns : List Str), vs = [.ref p, .ref r] ∧ H p = some (.tup (xs.map V.str)) ∧ H r = some (.tup (ns.map V.str)) ∧ 1 ≤ xs.length ∧ xs.length ≤ 100 ∧ (∀ x ∈ xs, x ∈ ns) ∧ xs.Pairwise slt ∧ ∀ H', Ex H H' → Q (.bl true) H'
theorem ok_is_ascending_of (T : TX K mg) : FnOk P w K mg base CX0 2 T.is_ascending_of.f T.is_ascending_of.d ["value", "some"] sp_is_ascending_of := by
  have G1 : FnOk P w K mg base CX0 1 T.is_one_of.f T.is_one_of.d ["value", "some"] sp_is_one_of := ok_is_one_of T
  have G2 : FnOk P w K mg base CX0 1 T.are_ascending.f T.are_ascending.d ["things"] (sp_are_ascending K) := ok_are_ascending T
  refine T.is_ascending_of.F.ok sc_is_ascending_of (fun vs H Q E h => ?_) (fun cdv A outer s H vs Q E hr h => ?_)
  · obtain ⟨p, r, xs, ns, rfl, _⟩ := h
    rfl
  · obtain ⟨p, r, xs, ns, rfl, hp, hn, l1, l2, hm, ha, q⟩ := h
    refine ⟨_, pss_one (ps_ret (pe_and (p_isi T.n_isinstance T.n_tuple boot_tuple' (pv 0)) (pe_and
      (pe_callB (cr_all rfl) (by rfl) T.n_all boot_all (pa_cons (pe_lc (own := [("item", 2)]) (g := gName 2) (tt := tYes) (te := tCall sp_is_one_of [] E0 (tCons (tVar 2) (tCons (tVar 1) tNil))) rfl sc_is_ascending_of.nd (pi_tup (pv 0)) (blkOk_by (own := [("item", 2)]) (N := N_is_ascending_of) (sc := defScope s_is_ascending_of) (by decide +kernel))
        (fun _ _ _ _ _ => pg_name (i := 2) sc_is_ascending_of.nd rfl (.inl rfl)) (fun _ _ _ _ _ => pts_nil) (fun _ _ _ _ _ => T.is_one_of.call G1 hr (pa_cons (pv 2) (pa_cons (pv 1) pa_nil)))) pa_nil))
      (pe_one (T.are_ascending.call G2 hr (pa_cons (pv 0) pa_nil)))))), ?_⟩
    refine ⟨_, rfl, _, _, _, _, _, rfl, .ty "tuple", .base (.tup hp), kit_tt, true, rfl, ?_⟩
    refine ⟨_, rfl, p, rfl, ⟨_, tyT hp⟩, fun D hD => lcV (walk_tup (xs := xs.map V.str)) (by rw [List.length_map]; omega) (fun _ => V.bl true) hD (fun H' e => tyT (e _ _ hp)) (fun i x H2 H2' hi e y RT rt => ?_) (fun H' e hD' => ?_)⟩
    · obtain ⟨rfl, hx⟩ := y
      rw [List.getElem?_map] at hx
      cases h1 : xs[i]? with
      | none => rw [h1] at hx; cases hx
      | some z =>
        rw [h1] at hx
        obtain rfl : V.str z = x := Option.some.inj hx
        refine ⟨rfl, _, rfl, _, rfl, z, r, ns, rfl, e _ _ hn, ?_⟩
        rw [decide_eq_true (hm z (List.mem_of_getElem? h1))]
        exact rt _ (Evl.Ex.refl _)
    · refine ⟨D, (List.range (xs.map V.str).length).map fun _ => true, rfl, tyL (by rw [hD', List.map_map]; rfl), ?_⟩
      rw [all_rep]
      refine ⟨true, rfl, _, rfl, p, _, _, rfl, .inl ⟨e _ _ hp, by rw [List.length_map]; exact l1⟩, dp_strs xs, by rw [List.length_map]; exact l2, asc_strs ha, fun H'' e2 => q H'' (e.trans e2)⟩
/-! ### are_routers -/
def sp_are_routers : Sp := fun vs H Q _ => ∃ (p : Addr) (ns : List Str), vs = [.ref p] ∧ H p = some (.tup (ns.map V.str)) ∧ NamesOk ns ∧ ∀ H', Ex H H' → Q (.bl true) H'
theorem ok_are_routers (T : TX K mg) : FnOk P w K mg base CX0 2 T.are_routers.f T.are_routers.d ["value"] sp_are_routers := by
  have G0 : FnOk P w K mg base CX0 1 T.is_tuple_to.f T.is_tuple_to.d ["value", "most"] sp_is_tuple_to := ok_is_tuple_to T
  have G1 : FnOk P w K mg base CX0 1 T.is_name.f T.is_name.d ["value"] sp_is_name := ok_is_name T
  have G2 : FnOk P w K mg base CX0 1 T.are_ascending.f T.are_ascending.d ["things"] (sp_are_ascending K) := ok_are_ascending T
  refine T.are_routers.F.ok sc_are_routers (fun vs H Q E h => ?_) (fun cdv A outer s H vs Q E hr h => ?_)
  · obtain ⟨p, ns, rfl, _⟩ := h
    rfl
  · obtain ⟨p, ns, rfl, hp, nk, q⟩ := h
    obtain ⟨uM, gM, rM⟩ := T.c_MOST_ROUTERS
    obtain ⟨uF, gF, rF⟩ := T.c_FEWEST_ROUTERS
    refine ⟨_, pss_cons (ps_if (PW.pt (pw_or (pt_not (pt_val (T.is_tuple_to.call G0 hr (pa_cons (pv 0) (pa_cons (pe_glob (by rfl) gM rM) pa_nil))))) (pw_or1 (pt_cmpR op_lt (pe_callB call_len_seq (by rfl) T.n_len PySem.boot_len (pa_cons (pv 0) pa_nil)) (pe_glob (by rfl) gF rF) (nomark _))))) (pss_one (ps_ret pe_bl)) pss_nil)
      (pss_one (ps_ret (pe_and
      (pe_callB (cr_all rfl) (by rfl) T.n_all boot_all (pa_cons (pe_lc (own := [("name", 1)]) (g := gName 1) (tt := tYes) (te := tCall sp_is_name [] E0 (tCons (tVar 1) tNil)) rfl sc_are_routers.nd (pi_tup (pv 0)) (blkOk_by (own := [("name", 1)]) (N := N_are_routers) (sc := defScope s_are_routers) (by decide +kernel))
        (fun _ _ _ _ _ => pg_name (i := 1) sc_are_routers.nd rfl (.inl rfl)) (fun _ _ _ _ _ => pts_nil) (fun _ _ _ _ _ => T.is_name.call G1 hr (pa_cons (pv 1) pa_nil))) pa_nil))
      (pe_one (T.are_ascending.call G2 hr (pa_cons (pv 0) pa_nil)))))), ?_⟩
    have m8 := nk.most
    have l2 := nk.least
    have len : (ns.map V.str).length = ns.length := List.length_map _
    refine ⟨_, rfl, p, _, 8, rfl, hp, true, congrArg V.bl (decide_eq_true (by rw [len]; omega)), iteF ?_⟩
    refine ⟨_, rfl, p, _, rfl, .inr (tyT hp), _, _, rfl, rfl, false, congrArg V.bl (decide_eq_false (by rw [len]; omega)), iteF ?_⟩
    refine ⟨_, rfl, p, rfl, ⟨_, tyT hp⟩, fun D hD => lcV (walk_tup (xs := ns.map V.str)) (by rw [List.length_map]; omega) (fun _ => V.bl true) hD (fun H' e => tyT (e _ _ hp)) (fun i x H2 H2' hi e y RT rt => ?_) (fun H' e hD' => ?_)⟩
    · obtain ⟨rfl, hx⟩ := y
      rw [List.getElem?_map] at hx
      cases h1 : ns[i]? with
      | none => rw [h1] at hx; cases hx
      | some z =>
        rw [h1] at hx
        obtain rfl : V.str z = x := Option.some.inj hx
        exact ⟨rfl, _, rfl, z, rfl, nk.each z (List.mem_of_getElem? h1), rt⟩
    · refine ⟨D, (List.range (ns.map V.str).length).map fun _ => true, rfl, tyL (by rw [hD', List.map_map]; rfl), ?_⟩
      rw [all_rep]
      refine ⟨true, rfl, _, rfl, p, _, _, rfl, .inl ⟨e _ _ hp, by rw [List.length_map]; omega⟩, dp_strs ns, by rw [List.length_map]; omega, asc_strs nk.asc, fun H'' e2 => q H'' (e.trans e2)⟩
end
end QT
namespace QT
open PySem PySem.Spec PyProof.Rows L2 QS QR
open Evl (Ex)
theorem paired_snoc {α β : Type} {F : α → β → Prop} {x : α} {y : β} : ∀ {xs : List α} {ys : List β}, Paired F xs ys → F x y → Paired F (xs ++ [x]) (ys ++ [y])
  | _, _, .nil, h => .cons h .nil
  | _, _, .cons a b, h => .cons a (paired_snoc b h)
/-- new tuples at the addresses qs -/
abbrev TupsAt (H : Hp) (qs : List Addr) (us : List (List V)) : Prop := Paired (fun q u => H q = some (.tup u)) qs us
theorem TupsAt.mono {H H' : Hp} (e : Ex H H') {qs : List Addr} {us : List (List V)} (h : TupsAt H qs us) : TupsAt H' qs us := Paired.mapP h fun q u z => e _ _ z
/-- a comprehension that makes tuples -/
theorem lcU {J : It} {n : Nat} {G : Hp → Prop} {Y : Nat → Hp → V → Hp → Prop} (w : Walk J n G Y) (hn : n ≤ 1000) {g : TG} {te : TE} {vs : List Nat} {σ : L2.St} {H1 : Hp} {D : Addr} {Qd : Hp → Prop} (u : Nat → List V) (hD : H1 D = none) (hG : ∀ H', Ex H1 H' → G H')
    (hs : ∀ i x H H', i < n → Ex H1 H → Y i H x H' → ∀ (RT : VK), (∀ q H'', Ex H H'' → H'' q = some (.tup (u i)) → RT (.ref q) H'') → g x (wipe σ vs) H' fun σ2 H2 => wipe σ2 vs = wipe σ vs ∧ te σ2 H2 RT)
    (hd : ∀ H' (qs : List Addr), Ex H1 H' → H' D = some (.lst (qs.map V.ref)) → TupsAt H' qs ((List.range n).map u) → Qd H') :
    ∃ W : Nat → Nat → Hp → Prop, (∃ m, W 0 m (upd H1 D (.lst []))) ∧ ∀ i m H, W i m H →
      (J.stop i H ∧ Qd H) ∨ (J.go i H ∧ ∃ Nx : Hp → Prop, (∀ H', Nx H' → ∃ m', m' < m ∧ W (i + 1) m' H') ∧ ∀ x H', J.yld i H x H' → g x (wipe σ vs) H' fun σ2 H2 => wipe σ2 vs = wipe σ vs ∧ tYes σ2 H2 fun b H3 =>
        if b = true then te σ2 H3 fun y H4 => ∃ acc, H4 D = some (.lst acc) ∧ acc.length < sizeLine ∧ Nx (upd H4 D (.lst (acc ++ [y]))) else Nx H3) := by
  refine lc_it w (fun i H' => Ex H1 H' ∧ ∃ qs : List Addr, H' D = some (.lst (qs.map V.ref)) ∧ TupsAt H' qs ((List.range i).map u)) ⟨Ex.new hD, [], upd_same, .nil⟩ (fun i H' _ p => hG H' p.1) (fun i x H H' hi p y => ?_) (fun H' p => ?_)
  · obtain ⟨p1, qs, p2, p3⟩ := p
    refine hs i x H H' hi p1 y _ fun q H'' e hq => ?_
    have hqD : H'' D = some (.lst (qs.map V.ref)) := e _ _ p2
    have hne : ∀ {a : Addr} {xs : List V}, H'' a = some (.tup xs) → a ≠ D := fun ha => ne_of ha hqD (by intro z; cases z)
    have len : qs.length = i := by have := paired_len p3; rw [List.length_map, List.length_range] at this; exact this
    refine ⟨qs.map V.ref, hqD, smallT (by rw [List.length_map, len]; omega), ex_upd (p1.trans e) hD, qs ++ [q], by rw [upd_same, List.map_append]; rfl, ?_⟩
    rw [List.range_succ, List.map_append]
    refine paired_snoc (Paired.mapP p3 fun q' u' z => ?_) ?_
    · rw [upd_ne (hne (e _ _ z))]
      exact e _ _ z
    · rw [upd_ne (hne hq)]
      exact hq
  · obtain ⟨p1, qs, p2, p3⟩ := p
    exact hd H' qs p1 p2 p3
section
variable {P : Program} {w : World} {K : PySem.W.Frag} {mg : Str → Option Value} {base : Heap}
theorem cut2 (l : Lk) : cutV (lkV l) none (some 2) = [.str l.1, .str l.2.1] := rfl
theorem nw2 (l : Lk) : ¬ (HT.sIx (lkV l).length 0 none = 0 ∧ HT.sIx (lkV l).length (lkV l).length (some 2) = (lkV l).length) := by
  show ¬ (HT.sIx 4 0 none = 0 ∧ HT.sIx 4 4 (some 2) = 4)
  decide
theorem nw2' (l : Lk) : ¬ (HT.sIx (lkV l).length 0 (some 2) = 0 ∧ HT.sIx (lkV l).length (lkV l).length none = (lkV l).length) := by
  show ¬ (HT.sIx 4 0 (some 2) = 0 ∧ HT.sIx 4 4 none = 4)
  decide
theorem cut2' (l : Lk) : cutV (lkV l) (some 2) none = [.int l.2.2.1, .int l.2.2.2] := rfl
/-! ### is_link -/
def sp_is_link : Sp := fun vs H Q _ => ∃ (p r : Addr) (l : Lk) (ns : List Str), vs = [.ref p, .ref r] ∧ LinkAt H p l ∧ H r = some (.tup (ns.map V.str)) ∧ LkOk ns l ∧ ∀ H', Ex H H' → Q (.bl true) H'
theorem ok_is_link (T : TX K mg) : FnOk P w K mg base CX0 3 T.is_link.f T.is_link.d ["value", "routers"] sp_is_link := by
  have G0 : FnOk P w K mg base CX0 1 T.is_tuple_of.f T.is_tuple_of.d ["value", "many"] sp_is_tuple_of := ok_is_tuple_of T
  have G1 : FnOk P w K mg base CX0 2 T.is_ascending_of.f T.is_ascending_of.d ["value", "some"] sp_is_ascending_of := ok_is_ascending_of T
  have G2 : FnOk P w K mg base CX0 2 T.is_from.f T.is_from.d ["value", "least"] sp_is_from := ok_is_from T
  refine T.is_link.F.ok sc_is_link (fun vs H Q E h => ?_) (fun cdv A outer s H vs Q E hr h => ?_)
  · obtain ⟨p, r, l, ns, rfl, _⟩ := h
    rfl
  · obtain ⟨p, r, l, ns, rfl, hp, hn, lk, q⟩ := h
    obtain ⟨uL, gL, rL⟩ := T.c_LINK
    refine ⟨_, pss_cons (ps_if (PW.pt (pw_or (pt_not (pt_val (T.is_tuple_of.call G0 (hr.mono (by decide)) (pa_cons (pv 0) (pa_cons (pe_glob (by rfl) gL rL) pa_nil)))))
        (pw_or1 (pt_not (pt_val (T.is_ascending_of.call G1 hr (pa_cons (pe_slice sl_tup (pv 0) po_none (po_some pe_int)) (pa_cons (pv 1) pa_nil)))))))) (pss_one (ps_ret pe_bl)) pss_nil)
      (pss_one (ps_ret (pe_and (T.is_from.call G2 hr (pa_cons (pe_ix ix_tup (pv 0) pe_int (fun _ _ => rfl)) (pa_cons pe_int pa_nil))) (pe_one (T.is_from.call G2 hr (pa_cons (pe_ix ix_tup (pv 0) pe_int (fun _ _ => rfl)) (pa_cons pe_int pa_nil))))))), ?_⟩
    refine ⟨_, rfl, p, _, 4, rfl, hp, true, congrArg V.bl (decide_eq_true rfl), iteF ?_⟩
    refine ⟨_, rfl, 2, rfl, p, _, rfl, tyT hp, nw2 l, fun c nc => ?_⟩
    rw [cut2]
    have e1 : Ex H (upd H c (.tup [.str l.1, .str l.2.1])) := Ex.new nc
    refine ⟨_, rfl, c, r, [l.1, l.2.1], ns, rfl, upd_same, e1 _ _ hn, (by show 1 ≤ 2; decide), (by show 2 ≤ 100; decide), ?_, ?_, fun H2 e2 => ⟨true, rfl, iteF ?_⟩⟩
    · intro x hx
      rcases List.mem_cons.mp hx with z | z
      · rw [z]; exact lk.1
      · rw [List.mem_singleton.mp z]; exact lk.2.1
    · exact List.pairwise_cons.mpr ⟨fun y hy => by rw [List.mem_singleton.mp hy]; exact lk.2.2.1, List.pairwise_singleton _ _⟩
    · have hp2 : H2 p = some (.tup (lkV l)) := e2 _ _ (e1 _ _ hp)
      refine ⟨_, rfl, p, _, 2, .int l.2.2.1, rfl, rfl, tyT hp2, rfl, l.2.2.1, 1, rfl, _, rfl, ?_⟩
      rw [decide_eq_true lk.2.2.2.1]
      refine iteT ⟨_, rfl, p, _, 3, .int l.2.2.2, rfl, rfl, tyT hp2, rfl, l.2.2.2, 1, rfl, ?_⟩
      rw [decide_eq_true lk.2.2.2.2]
      exact q H2 (e1.trans e2)
theorem dp_pairs {H : Hp} : ∀ {qs : List Addr} {ls : List Lk}, TupsAt H qs (ls.map fun l => [.str l.1, .str l.2.1]) → DpAll K H (qs.map V.ref) (ls.map prT)
  | [], [], .nil => .nil
  | q :: qs, l :: ls, .cons a b => .cons (.tup (tyT a) (.cons (.str _) (.cons (.str _) .nil))) (dp_pairs b)
theorem range_map_getD {α β : Type} (f : α → β) (d : α) : ∀ ls : List α, (List.range ls.length).map (fun i => f (ls.getD i d)) = ls.map f := by
  intro ls
  refine List.ext_getElem (by simp) fun i h1 h2 => ?_
  rw [List.getElem_map, List.getElem_map, List.getElem_range]
  rw [List.length_map] at h2
  rw [List.getD_eq_getElem?_getD, List.getElem?_eq_getElem h2]
  rfl
abbrev lk0 : Lk := (Str.empty, Str.empty, 0, 0)
theorem getD_of {α : Type} {ls : List α} {i : Nat} {l d : α} (h : ls[i]? = some l) : ls.getD i d = l := by
  rw [List.getD_eq_getElem?_getD, h]
  rfl
/-- an item of the links -/
theorem links_get {H : Hp} {qs : List Addr} {ls : List Lk} (h : LinksAt H qs ls) {i : Nat} {x : V} (hx : (qs.map V.ref)[i]? = some x) : ∃ q l, x = .ref q ∧ ls[i]? = some l ∧ LinkAt H q l ∧ qs[i]? = some q := by
  rw [List.getElem?_map] at hx
  cases h1 : qs[i]? with
  | none => rw [h1] at hx; cases hx
  | some q =>
    rw [h1] at hx
    obtain ⟨l, h2, h3⟩ := paired_get h i h1
    exact ⟨q, l, (Option.some.inj hx).symm, h2, h3, rfl⟩
/-! ### are_links -/
def sp_are_links : Sp := fun vs H Q _ => ∃ (p r : Addr) (qs : List Addr) (ls : List Lk) (ns : List Str), vs = [.ref p, .ref r] ∧ H p = some (.tup (qs.map V.ref)) ∧ LinksAt H qs ls ∧ H r = some (.tup (ns.map V.str)) ∧ LinksOk ns ls ∧ ∀ H', Ex H H' → Q (.bl true) H'
theorem ok_are_links (T : TX K mg) : FnOk P w K mg base CX0 4 T.are_links.f T.are_links.d ["value", "routers"] sp_are_links := by
  have G0 : FnOk P w K mg base CX0 1 T.is_tuple_to.f T.is_tuple_to.d ["value", "most"] sp_is_tuple_to := ok_is_tuple_to T
  have G1 : FnOk P w K mg base CX0 3 T.is_link.f T.is_link.d ["value", "routers"] sp_is_link := ok_is_link T
  have G2 : FnOk P w K mg base CX0 1 T.are_ascending.f T.are_ascending.d ["things"] (sp_are_ascending K) := ok_are_ascending T
  refine T.are_links.F.ok sc_are_links (fun vs H Q E h => ?_) (fun cdv A outer s H vs Q E hr h => ?_)
  · obtain ⟨p, r, qs, ls, ns, rfl, _⟩ := h
    rfl
  · obtain ⟨p, r, qs, ls, ns, rfl, hp, hL, hn, lk, q⟩ := h
    obtain ⟨uM, gM, rM⟩ := T.c_MOST_LINKS
    refine ⟨_, pss_cons (ps_if (PW.pt (pw_or (pt_not (pt_val (T.is_tuple_to.call G0 (hr.mono (by decide)) (pa_cons (pv 0) (pa_cons (pe_glob (by rfl) gM rM) pa_nil)))))
        (pw_or1 (pt_not (pt_val (pe_callB (cr_all rfl) (by rfl) T.n_all boot_all (pa_cons (pe_lc (own := [("link", 2)]) (g := gName 2) (tt := tYes) (te := tCall sp_is_link [] E0 (tCons (tVar 2) (tCons (tVar 1) tNil))) rfl sc_are_links.nd (pi_tup (pv 0)) (blkOk_by (own := [("link", 2)]) (N := N_are_links) (sc := defScope s_are_links) (by decide +kernel))
        (fun _ _ _ _ _ => pg_name (i := 2) sc_are_links.nd rfl (.inl rfl)) (fun _ _ _ _ _ => pts_nil) (fun _ _ _ _ _ => T.is_link.call G1 hr (pa_cons (pv 2) (pa_cons (pv 1) pa_nil)))) pa_nil))))))) (pss_one (ps_ret pe_bl)) pss_nil)
      (pss_one (ps_ret (T.are_ascending.call G2 (hr.mono (by decide)) (pa_cons (pe_lc (own := [("link", 2)]) (g := gName 2) (tt := tYes) (te := tSl (rSlT K) (tVar 2) tNoPart (tPart (tC (.int 2)))) rfl sc_are_links.nd (pi_tup (pv 0)) (blkOk_by (own := [("link", 2)]) (N := N_are_links) (sc := defScope s_are_links) (by decide +kernel))
        (fun _ _ _ _ _ => pg_name (i := 2) sc_are_links.nd rfl (.inl rfl)) (fun _ _ _ _ _ => pts_nil) (fun _ _ _ _ _ => pe_slice sl_tup (pv 2) po_none (po_some pe_int))) pa_nil)))), ?_⟩
    have ql : qs.length = ls.length := paired_len hL
    have m16 := lk.most
    have len : (qs.map V.ref).length = qs.length := List.length_map _
    refine ⟨_, rfl, p, _, 16, rfl, hp, true, congrArg V.bl (decide_eq_true (by rw [len]; omega)), iteF ?_⟩
    refine ⟨_, rfl, p, rfl, ⟨_, tyT hp⟩, fun D hD => lcV (walk_tup (xs := qs.map V.ref)) (by rw [len]; omega) (fun _ => V.bl true) hD (fun H' e => tyT (e _ _ hp)) (fun i x H2 H2' hi e y RT rt => ?_) (fun H1 e1 hD' => ?_)⟩
    · obtain ⟨rfl, hx⟩ := y
      obtain ⟨qa, l, rfl, h1, h2, _⟩ := links_get hL hx
      exact ⟨rfl, _, rfl, _, rfl, qa, r, l, ns, rfl, e _ _ h2, e _ _ hn, lk.each l (List.mem_of_getElem? h1), rt⟩
    · refine ⟨D, (List.range (qs.map V.ref).length).map fun _ => true, rfl, tyL (by rw [hD', List.map_map]; rfl), ?_⟩
      rw [all_rep]
      refine ⟨true, rfl, iteF ?_⟩
      refine ⟨_, rfl, p, rfl, ⟨_, tyT (e1 _ _ hp)⟩, fun D2 hD2 => lcU (walk_tup (xs := qs.map V.ref)) (by rw [len]; omega) (fun i => [.str (ls.getD i lk0).1, .str (ls.getD i lk0).2.1]) hD2 (fun H' e => tyT (e _ _ (e1 _ _ hp))) (fun i x H2 H2' hi e y RT rt => ?_) (fun H2 rs e2 hD2' hT => ?_)⟩
      · obtain ⟨rfl, hx⟩ := y
        obtain ⟨qa, l, rfl, h1, h2, _⟩ := links_get hL hx
        rw [getD_of h1] at rt
        have hq2 : H2' qa = some (.tup (lkV l)) := e _ _ (e1 _ _ h2)
        refine ⟨rfl, _, rfl, 2, rfl, qa, _, rfl, tyT hq2, nw2 l, fun c nc => ?_⟩
        rw [cut2]
        exact rt c _ (Ex.new nc) upd_same
      · rw [len, ql, range_map_getD (fun l : Lk => [V.str l.1, V.str l.2.1]) lk0 ls] at hT
        have rl : rs.length = ls.length := by have := paired_len hT; rw [List.length_map] at this; exact this
        exact ⟨D2, _, _, rfl, .inr hD2', dp_pairs hT, by rw [List.length_map]; omega, asc_pairs lk.asc, fun H3 e3 => q H3 (e1.trans (e2.trans e3))⟩
end
end QT
namespace QT
open PySem PySem.Spec PyProof.Rows L2 QS QR
open Evl (Ex)
section
variable {P : Program} {w : World} {K : PySem.W.Frag} {mg : Str → Option Value} {base : Heap}
/-! ### Net -/
def sp_net_init (C : Addr) : Sp := fun vs H Q _ => ∃ (p dx R L : Addr) (qs : List Addr) (ns : List Str) (ls : List Lk), vs = [.ref p, .ref R, .ref L] ∧ H p = some (.ins C dx []) ∧ H R = some (.tup (ns.map V.str)) ∧ H L = some (.tup (qs.map V.ref)) ∧ LinksAt H qs ls ∧ NamesOk ns ∧ LinksOk ns ls ∧
  ∀ H', Exp p H H' → H' p = some (.ins C dx (fsN R L)) → Q .non H'
theorem ok_net_init (T : TX K mg) : FnOk P w K mg base CX0 5 T.net_init.f T.net_init.d ["self", "routers", "links"] (sp_net_init T.CN) := by
  have G1 : FnOk P w K mg base CX0 2 T.are_routers.f T.are_routers.d ["value"] sp_are_routers := ok_are_routers T
  have G2 : FnOk P w K mg base CX0 4 T.are_links.f T.are_links.d ["value", "routers"] sp_are_links := ok_are_links T
  refine T.net_init.F.ok sc_net_init (fun vs H Q E h => ?_) (fun cdv A outer s H vs Q E hr h => ?_)
  · obtain ⟨p, dx, R, L, qs, ns, ls, rfl, _⟩ := h
    rfl
  · obtain ⟨p, dx, R, L, qs, ns, ls, rfl, hp, hR, hL, hq, nk, lk, q⟩ := h
    refine ⟨_, pss_cons (ps_if (PW.pt (pw_or (pt_not (pt_val (T.are_routers.call G1 (hr.mono (by decide)) (pa_cons (pv 1) pa_nil)))) (pw_or1 (pt_not (pt_val (T.are_links.call G2 hr (pa_cons (pv 2) (pa_cons (pv 1) pa_nil)))))))) pss_never pss_nil)
      (pss_cons (ps_fld (pv 0) (pv 1) rfl) (pss_one (ps_fld (pv 0) (pv 2) rfl))), ?_⟩
    refine ⟨_, rfl, R, ns, rfl, hR, nk, fun H1 e1 => ⟨true, rfl, iteF ?_⟩⟩
    refine ⟨_, rfl, _, rfl, L, R, qs, ls, ns, rfl, e1 _ _ hL, linksAt_mono (fun a xs z => e1 _ _ z) hq, e1 _ _ hR, lk, fun H2 e2 => ⟨true, rfl, iteF ?_⟩⟩
    have hp2 := e2 _ _ (e1 _ _ hp)
    refine ⟨_, rfl, _, rfl, p, T.CN, dx, [], rfl, hp2, T.clN, T.nR, by decide, ?_⟩
    refine ⟨_, rfl, _, rfl, p, T.CN, dx, _, rfl, upd_same, T.clN, T.nL, (by show 1 < 1000; decide), ?_⟩
    rw [upd_upd]
    exact q _ ((Exp.of (e1.trans e2)).upd) upd_same
theorem ok_net_routers (T : TX K mg) : FnOk P w K mg base CX0 1 T.net_routers.f T.net_routers.d ["self"] (getSp T.CN "own_routers") := by
  refine T.net_routers.F.ok sc_net_routers (fun vs H Q E h => ?_) (fun cdv A outer s H vs Q E hr h => ?_)
  · obtain ⟨a, dx, fs, v, rfl, _⟩ := h
    rfl
  · obtain ⟨a, dx, fs, v, rfl, ea, l, q⟩ := h
    refine ⟨_, pss_one (ps_ret (pe_fld (pv 0) rfl)), ?_⟩
    exact ⟨_, rfl, a, T.CN, dx, fs, v, rfl, ea, T.clN, T.nR, l, q⟩
theorem ok_net_links (T : TX K mg) : FnOk P w K mg base CX0 1 T.net_links.f T.net_links.d ["self"] (getSp T.CN "own_links") := by
  refine T.net_links.F.ok sc_net_links (fun vs H Q E h => ?_) (fun cdv A outer s H vs Q E hr h => ?_)
  · obtain ⟨a, dx, fs, v, rfl, _⟩ := h
    rfl
  · obtain ⟨a, dx, fs, v, rfl, ea, l, q⟩ := h
    refine ⟨_, pss_one (ps_ret (pe_fld (pv 0) rfl)), ?_⟩
    exact ⟨_, rfl, a, T.CN, dx, fs, v, rfl, ea, T.clN, T.nL, l, q⟩
/-- e.routers, e.links -/
def tR (C : Addr) (ta : TE) : TE := tProp C (getSp C "own_routers") [] E0 ta
def tLs (C : Addr) (ta : TE) : TE := tProp C (getSp C "own_links") [] E0 ta
theorem p_routers {X : Cx} {e : Expr} {t : TE} {pos : Pos} (T : TX K mg) (hr : Room 2 X.A) (he : PE X e t) (hK : X.K = K := by rfl) (hm : X.mg = mg := by rfl) (hab : attributeBase e "routers" X.env (eval e X.env) = eval e X.env := by rfl) : PE X (.Attribute e "routers" pos) (tR T.CN t) := by
  subst hK
  subst hm
  obtain ⟨p, hp⟩ := T.pR
  exact pe_prop he T.clN hp (ok_net_routers T) hr T.net_routers.b .nil pass0 hab
theorem p_links {X : Cx} {e : Expr} {t : TE} {pos : Pos} (T : TX K mg) (hr : Room 2 X.A) (he : PE X e t) (hK : X.K = K := by rfl) (hm : X.mg = mg := by rfl) (hab : attributeBase e "links" X.env (eval e X.env) = eval e X.env := by rfl) : PE X (.Attribute e "links" pos) (tLs T.CN t) := by
  subst hK
  subst hm
  obtain ⟨p, hp⟩ := T.pL
  exact pe_prop he T.clN hp (ok_net_links T) hr T.net_links.b .nil pass0 hab
theorem r_routers {C : Addr} {t : TE} {σ : L2.St} {H H1 : Hp} {Q : VK} {n dx R L : Addr} (h : H1 n = some (.ins C dx (fsN R L))) (q : Q (.ref R) H1) : ∃ a dx fs, V.ref n = .ref a ∧ H1 a = some (.ins C dx fs) ∧ getSp C "own_routers" (.ref a :: []) H1 Q E0 :=
  ⟨n, dx, _, rfl, h, n, dx, _, _, rfl, h, rfl, q⟩
theorem r_links {C : Addr} {t : TE} {σ : L2.St} {H H1 : Hp} {Q : VK} {n dx R L : Addr} (h : H1 n = some (.ins C dx (fsN R L))) (q : Q (.ref L) H1) : ∃ a dx fs, V.ref n = .ref a ∧ H1 a = some (.ins C dx fs) ∧ getSp C "own_links" (.ref a :: []) H1 Q E0 :=
  ⟨n, dx, _, rfl, h, n, dx, _, _, rfl, h, rfl, q⟩
/-- Net(..) -/
theorem p_net {X : Cx} {es : List Expr} {e : Expr} {t : TA} {p pos : Pos} (T : TX K mg) (hr : Room 6 X.A) (ha : PA X (e :: es) t) (hK : X.K = K := by rfl) (hm : X.mg = mg := by rfl) (hg : Gl X "Net" := by rfl)
    (he : starEach (e :: es) X.env = (false, eval e X.env) :: starEach es X.env := by rfl) (hpl : (backTo pos (starEach es X.env)).any (·.1) = false := by rfl) : PE X (.Call (.Name "Net" p) (e :: es) [] pos) (tMake T.CN (sp_net_init T.CN) [] E0 t) := by
  subst hK
  subst hm
  exact pe_make T.mkN (ok_net_init T) hr hg T.gN T.net_init.b .nil pass0 ha (by decide) he hpl
/-- a net made -/
theorem r_net {C : Addr} {H : Hp} {Q : VK} {R L : Addr} {qs : List Addr} {ns : List Str} {ls : List Lk} (hR : H R = some (.tup (ns.map V.str))) (hL : H L = some (.tup (qs.map V.ref))) (hq : LinksAt H qs ls) (nk : NamesOk ns) (lk : LinksOk ns ls)
    (q : ∀ n H', Ex H H' → NetAt C H' n ns ls → Q (.ref n) H') : ∀ x dx, H x = none → H dx = none → dx ≠ x → sp_net_init C (.ref x :: ([.ref R, .ref L] ++ [])) (upd (upd H dx (.own x)) x (.ins C dx [])) (fun v H2 => v = .non ∧ Q (.ref x) H2) E0 := by
  intro x dx nx ndx ne
  have e0 : Ex H (upd (upd H dx (.own x)) x (.ins C dx [])) := ex_upd (ex_upd (Evl.Ex.refl H) ndx) nx
  refine ⟨x, dx, R, L, qs, ns, ls, rfl, upd_same, e0 _ _ hR, e0 _ _ hL, linksAt_mono (fun a xs z => e0 _ _ z) hq, nk, lk, fun H' e h => ⟨rfl, q x H' ?_ ⟨⟨dx, R, L, qs, h, ?_, ?_, ?_⟩, nk, lk⟩⟩⟩
  · exact fun a o ha => e a o (ne_of_none ha nx) (e0 a o ha)
  · exact e _ _ (ne_of_none hR nx) (e0 _ _ hR)
  · exact e _ _ (ne_of_none hL nx) (e0 _ _ hL)
  · exact linksAt_mono (fun a xs z => e _ _ (ne_of_none z nx) (e0 _ _ z)) hq
/-! ### check_routers -/
def sp_check_routers (C : Addr) : Sp := fun vs H Q _ => ∃ (n p : Addr) (ns xs : List Str) (ls : List Lk), vs = [.ref n, .ref p] ∧ NetAt C H n ns ls ∧ H p = some (.tup (xs.map V.str)) ∧ (∀ x ∈ xs, x ∈ ns) ∧ Q .non H
theorem ok_check_routers (T : TX K mg) : FnOk P w K mg base CX0 3 T.check_routers.f T.check_routers.d ["net", "values"] (sp_check_routers T.CN) := by
  have G1 : FnOk P w K mg base CX0 1 T.is_one_of.f T.is_one_of.d ["value", "some"] sp_is_one_of := ok_is_one_of T
  refine T.check_routers.F.ok sc_check_routers (fun vs H Q E h => ?_) (fun cdv A outer s H vs Q E hr h => ?_)
  · obtain ⟨n, p, ns, xs, ls, rfl, _⟩ := h
    rfl
  · obtain ⟨n, p, ns, xs, ls, rfl, hn, hp, hm, q⟩ := h
    obtain ⟨dx, R, L, qs, n1, n2, n3, n4⟩ := hn.ex
    refine ⟨_, pss_one (ps_for PassesOwn.never rfl (pi_tup (pv 1)) (pg_name (i := 2) sc_check_routers.nd rfl (.inl rfl))
      (pss_one (ps_if (pt_not (pt_val (T.is_one_of.call G1 (hr.mono (by decide)) (pa_cons (pv 2) (pa_cons (p_routers T hr (pv 0)) pa_nil))))) pss_never pss_nil))), ?_⟩
    refine ⟨_, rfl, p, rfl, ⟨_, tyT hp⟩, for_it (walk_tup (xs := xs.map V.str)) (fun i σ H' => H' = H ∧ ∃ y, σ = [some (.ref n), some (.ref p), y]) ⟨rfl, _, rfl⟩ (fun i σ H' _ pv => by rw [pv.1]; exact tyT hp) (fun i x σ H1 H1' hi pv y => ?_) (fun σ H' pv => by rw [pv.1]; exact q)⟩
    obtain ⟨rfl, z, rfl⟩ := pv
    obtain ⟨rfl, hx⟩ := y
    rw [List.getElem?_map] at hx
    cases h1 : xs[i]? with
    | none => rw [h1] at hx; cases hx
    | some c =>
      rw [h1] at hx
      obtain rfl : V.str c = x := Option.some.inj hx
      refine ⟨_, rfl, _, rfl, r_routers (t := tVar 0) (σ := []) (H := H1') n1 ?_⟩
      refine ⟨c, R, ns, rfl, n2, ?_⟩
      rw [decide_eq_true (hm c (List.mem_of_getElem? h1))]
      exact ⟨true, rfl, iteF ⟨rfl, _, rfl⟩⟩
end
end QT
namespace QT
open PySem PySem.Spec PyProof.Rows L2 QS QR
open Evl (Ex)
/-! ### edges -/
abbrev Edge := Str × Str × Int
def edgesOf (ls : List Lk) : List Edge := ls.flatMap fun l => [(l.1, l.2.1, l.2.2.1), (l.2.1, l.1, l.2.2.2)]
def keyE (e : Edge) : List Key := [.inr e.1, .inr e.2.1]
def dictE (es : List Edge) : List (List Key × V) := es.map fun e => (keyE e, .int e.2.2)
theorem mem_edges {ls : List Lk} {e : Edge} : e ∈ edgesOf ls ↔ ∃ l ∈ ls, e = (l.1, l.2.1, l.2.2.1) ∨ e = (l.2.1, l.1, l.2.2.2) := by
  unfold edgesOf
  rw [List.mem_flatMap]
  constructor
  · rintro ⟨l, hl, h⟩
    rcases List.mem_cons.mp h with h | h
    · exact ⟨l, hl, .inl h⟩
    · exact ⟨l, hl, .inr (List.mem_singleton.mp h)⟩
  · rintro ⟨l, hl, h | h⟩
    · exact ⟨l, hl, List.mem_cons.mpr (.inl h)⟩
    · exact ⟨l, hl, List.mem_cons_of_mem _ (List.mem_singleton.mpr h)⟩
theorem edges_snoc (ls : List Lk) (l : Lk) : edgesOf (ls ++ [l]) = edgesOf ls ++ [(l.1, l.2.1, l.2.2.1), (l.2.1, l.1, l.2.2.2)] := by
  unfold edgesOf
  rw [List.flatMap_append]
  rfl
/-- the keys of edges all differ -/
def KeysNd (es : List Edge) : Prop := (es.map keyE).Nodup
theorem keyE_inj {e f : Edge} (h : keyE e = keyE f) : e.1 = f.1 ∧ e.2.1 = f.2.1 := by
  unfold keyE at h
  injection h with h1 h2
  injection h2 with h2 _
  exact ⟨Sum.inr.inj h1, Sum.inr.inj h2⟩
theorem valV_dictE {es : List Edge} (nd : KeysNd es) {u v : Str} {l : Int} : valV (dictE es) [.inr u, .inr v] = some (.int l) ↔ (u, v, l) ∈ es := by
  induction es with
  | nil => exact ⟨fun h => (by cases h), fun h => (by cases h)⟩
  | cons e es ih =>
    have nd' := List.nodup_cons.mp nd
    by_cases hk : keyE e = [.inr u, .inr v]
    · rw [show valV (dictE (e :: es)) [.inr u, .inr v] = some (.int e.2.2) from valV_pos (p := (keyE e, V.int e.2.2)) hk]
      have h2 : e.1 = u ∧ e.2.1 = v := keyE_inj (f := (u, v, 0)) hk
      constructor
      · intro h
        have h3 : e.2.2 = l := V.int.inj (Option.some.inj h)
        refine List.mem_cons.mpr (.inl ?_)
        rw [← h2.1, ← h2.2, ← h3]
      · intro h
        rcases List.mem_cons.mp h with h | h
        · rw [← h]
        · exact absurd (List.mem_map.mpr ⟨_, h, hk.symm⟩) nd'.1
    · rw [show valV (dictE (e :: es)) [.inr u, .inr v] = valV (dictE es) [.inr u, .inr v] from valV_neg (p := (keyE e, V.int e.2.2)) hk, ih nd'.2, List.mem_cons]
      exact ⟨.inr, fun h => h.elim (fun z => absurd (by rw [← z]; rfl) hk) id⟩
theorem valV_dictE_none {es : List Edge} {u v : Str} : valV (dictE es) [.inr u, .inr v] = none ↔ ∀ l, (u, v, l) ∉ es := by
  induction es with
  | nil => exact ⟨fun _ l h => (by cases h), fun _ => rfl⟩
  | cons e es ih =>
    by_cases hk : keyE e = [.inr u, .inr v]
    · rw [show valV (dictE (e :: es)) [.inr u, .inr v] = some (.int e.2.2) from valV_pos (p := (keyE e, V.int e.2.2)) hk]
      have h2 : e.1 = u ∧ e.2.1 = v := keyE_inj (f := (u, v, 0)) hk
      exact ⟨fun h => (by cases h), fun h => absurd (List.mem_cons.mpr (.inl (by rw [← h2.1, ← h2.2]))) (h e.2.2)⟩
    · rw [show valV (dictE (e :: es)) [.inr u, .inr v] = valV (dictE es) [.inr u, .inr v] from valV_neg (p := (keyE e, V.int e.2.2)) hk, ih]
      refine ⟨fun h l hm => ?_, fun h l hm => h l (List.mem_cons_of_mem _ hm)⟩
      rcases List.mem_cons.mp hm with z | z
      · exact hk (by rw [← z]; rfl)
      · exact h l z
theorem valV_dictE_some {es : List Edge} {u v : Str} {x : V} (h : valV (dictE es) [.inr u, .inr v] = some x) : ∃ l, x = .int l ∧ (u, v, l) ∈ es := by
  induction es with
  | nil => cases h
  | cons e es ih =>
    by_cases hk : keyE e = [.inr u, .inr v]
    · rw [show valV (dictE (e :: es)) [.inr u, .inr v] = some (.int e.2.2) from valV_pos (p := (keyE e, V.int e.2.2)) hk] at h
      have h2 : e.1 = u ∧ e.2.1 = v := keyE_inj (f := (u, v, 0)) hk
      exact ⟨e.2.2, (Option.some.inj h).symm, List.mem_cons.mpr (.inl (by rw [← h2.1, ← h2.2]))⟩
    · rw [show valV (dictE (e :: es)) [.inr u, .inr v] = valV (dictE es) [.inr u, .inr v] from valV_neg (p := (keyE e, V.int e.2.2)) hk] at h
      obtain ⟨l, e1, e2⟩ := ih h
      exact ⟨l, e1, List.mem_cons_of_mem _ e2⟩
/-- links of a net: their edges have keys of their own -/
theorem edge_cases {ns : List Str} {ls : List Lk} (lk : LinksOk ns ls) {u v : Str} {n : Int} (h : (u, v, n) ∈ edgesOf ls) : ∃ l ∈ ls, (slt u v ∧ l.1 = u ∧ l.2.1 = v ∧ n = l.2.2.1) ∨ (slt v u ∧ l.1 = v ∧ l.2.1 = u ∧ n = l.2.2.2) := by
  obtain ⟨l, hl, h | h⟩ := mem_edges.mp h
  · injection h with e1 e2
    injection e2 with e2 e3
    have := (lk.each l hl).2.2.1
    exact ⟨l, hl, .inl ⟨by rw [e1, e2]; exact this, e1.symm, e2.symm, e3⟩⟩
  · injection h with e1 e2
    injection e2 with e2 e3
    have := (lk.each l hl).2.2.1
    exact ⟨l, hl, .inr ⟨by rw [e1, e2]; exact this, e2.symm, e1.symm, e3⟩⟩
theorem edges_one {ns : List Str} {ls : List Lk} (lk : LinksOk ns ls) {u v : Str} {n m : Int} (h : (u, v, n) ∈ edgesOf ls) (g : (u, v, m) ∈ edgesOf ls) : n = m := by
  obtain ⟨l, hl, c⟩ := edge_cases lk h
  obtain ⟨l', hl', c'⟩ := edge_cases lk g
  rcases c with ⟨a1, a2, a3, a4⟩ | ⟨a1, a2, a3, a4⟩ <;> rcases c' with ⟨b1, b2, b3, b4⟩ | ⟨b1, b2, b3, b4⟩
  · have := lk.one hl hl' (a2.trans b2.symm) (a3.trans b3.symm)
    rw [a4, b4, this]
  · exact absurd (slt_trans a1 b1) (slt_irrefl _)
  · exact absurd (slt_trans a1 b1) (slt_irrefl _)
  · have := lk.one hl hl' (a2.trans b2.symm) (a3.trans b3.symm)
    rw [a4, b4, this]
theorem LinksOk.sub {ns : List Str} {ls ms : List Lk} (lk : LinksOk ns ls) (h : List.Sublist ms ls) : LinksOk ns ms := ⟨Nat.le_trans h.length_le lk.most, fun l hl => lk.each l (h.subset hl), lk.asc.sublist h⟩
/-- the next link's edges are new -/
theorem next_new {ns : List Str} {ls : List Lk} (lk : LinksOk ns ls) {i : Nat} {l : Lk} (hi : ls[i]? = some l) : (∀ n, (l.1, l.2.1, n) ∉ edgesOf (ls.take i)) ∧ ∀ n, (l.2.1, l.1, n) ∉ edgesOf (ls.take i) ++ [(l.1, l.2.1, l.2.2.1)] := by
  have hl := lk.each l (List.mem_of_getElem? hi)
  have lk' := lk.sub (List.take_sublist i ls)
  have no : ∀ m ∈ ls.take i, ¬ (m.1 = l.1 ∧ m.2.1 = l.2.1) := fun m hm => by
    obtain ⟨j, hj, e⟩ := List.getElem_of_mem hm
    have hj' : j < i := by rw [List.length_take] at hj; omega
    obtain ⟨il, ie⟩ := List.getElem?_eq_some_iff.mp hi
    rw [List.getElem_take] at e
    have := List.pairwise_iff_getElem.mp lk.asc j i (by omega) il hj'
    rw [e, ie] at this
    exact plt_irrefl this
  refine ⟨fun n h => ?_, fun n h => ?_⟩
  · obtain ⟨m, hm, ⟨a1, a2, a3, _⟩ | ⟨a1, a2, a3, _⟩⟩ := edge_cases lk' h
    · exact no m hm ⟨a2, a3⟩
    · exact slt_irrefl _ (slt_trans a1 hl.2.2.1)
  · rcases List.mem_append.mp h with h | h
    · obtain ⟨m, hm, ⟨a1, a2, a3, _⟩ | ⟨a1, a2, a3, _⟩⟩ := edge_cases lk' h
      · exact slt_irrefl _ (slt_trans a1 hl.2.2.1)
      · exact no m hm ⟨a2, a3⟩
    · have h := List.mem_singleton.mp h
      injection h with e1 _
      have := hl.2.2.1
      rw [e1] at this
      exact slt_irrefl _ this
theorem edges_nd {ns : List Str} {ls : List Lk} (lk : LinksOk ns ls) : KeysNd (edgesOf ls) := by
  have go : ∀ i, i ≤ ls.length → KeysNd (edgesOf (ls.take i)) := by
    intro i
    induction i with
    | zero => intro _; exact List.nodup_nil
    | succ i ih =>
      intro hi
      have hl : ls[i]? = some ls[i] := List.getElem?_eq_getElem hi
      obtain ⟨n1, n2⟩ := next_new lk hl
      rw [List.take_succ, hl]
      show KeysNd (edgesOf (ls.take i ++ [ls[i]]))
      rw [edges_snoc]
      have ih' := ih (by omega)
      have app : ∀ (es : List Edge) (e : Edge), KeysNd es → (∀ n, (e.1, e.2.1, n) ∉ es) → KeysNd (es ++ [e]) := fun es e nd no => by
        unfold KeysNd
        rw [List.map_append, List.nodup_append]
        refine ⟨nd, List.nodup_cons.mpr ⟨by simp, List.nodup_nil⟩, fun a ha b hb e' => ?_⟩
        obtain ⟨f, hf, rfl⟩ := List.mem_map.mp ha
        rw [List.mem_singleton.mp hb] at e'
        obtain ⟨h1, h2⟩ := keyE_inj e'
        refine no f.2.2 ?_
        rw [← h1, ← h2]
        exact hf
      have s1 := app _ (ls[i].1, ls[i].2.1, ls[i].2.2.1) ih' n1
      have s2 := app _ (ls[i].2.1, ls[i].1, ls[i].2.2.2) s1 n2
      rw [List.append_assoc] at s2
      exact s2
  have := go ls.length (Nat.le_refl _)
  rw [List.take_length] at this
  exact this
theorem edges_pos {ns : List Str} {ls : List Lk} (lk : LinksOk ns ls) : QM.Pos (edgesOf ls) := by
  intro u v n h
  obtain ⟨l, hl, ⟨_, _, _, e⟩ | ⟨_, _, _, e⟩⟩ := edge_cases lk h
  · rw [e]; exact (lk.each l hl).2.2.2.1
  · rw [e]; exact (lk.each l hl).2.2.2.2
theorem edges_in {ns : List Str} {ls : List Lk} (lk : LinksOk ns ls) : ∀ u v n, (u, v, n) ∈ edgesOf ls → u ∈ ns := by
  intro u v n h
  obtain ⟨l, hl, ⟨_, e, _, _⟩ | ⟨_, _, e, _⟩⟩ := edge_cases lk h
  · rw [← e]; exact (lk.each l hl).1
  · rw [← e]; exact (lk.each l hl).2.1
section
variable {P : Program} {w : World} {K : PySem.W.Frag} {mg : Str → Option Value} {base : Heap}
/-! ### link_of -/
def sp_link_of (C : Addr) : Sp := fun vs H Q _ => ∃ (n : Addr) (ns : List Str) (ls : List Lk) (l : Lk), vs = [.ref n, .str l.1, .str l.2.1] ∧ NetAt C H n ns ls ∧ l ∈ ls ∧ ∀ H' q, Ex H H' → LinkAt H' q l → Q (.ref q) H'
theorem ok_link_of (T : TX K mg) : FnOk P w K mg base CX0 3 T.link_of.f T.link_of.d ["net", "a", "b"] (sp_link_of T.CN) := by
  have G1 : FnOk P w K mg base CX0 1 T.is_one_of.f T.is_one_of.d ["value", "some"] sp_is_one_of := ok_is_one_of T
  refine T.link_of.F.ok sc_link_of (fun vs H Q E h => ?_) (fun cdv A outer s H vs Q E hr h => ?_)
  · obtain ⟨n, ns, ls, l, rfl, _⟩ := h
    rfl
  · obtain ⟨n, ns, ls, l, rfl, hn, hl, q⟩ := h
    obtain ⟨dx, R, L, qs, n1, n2, n3, n4⟩ := hn.ex
    refine ⟨_, pss_cons (ps_for PassesOwn.never rfl (pi_tup (p_links T hr (pv 0))) (pg_name (i := 3) sc_link_of.nd rfl (.inl rfl))
      (pss_one (ps_if (PW.pt (pw_and (pt_val (T.is_one_of.call G1 (hr.mono (by decide)) (pa_cons (pv 1) (pa_cons (pe_tup (pa_cons (pe_ix ix_tup (pv 3) pe_int (fun _ _ => rfl)) pa_nil)) pa_nil))))
        (pw_and1 (pt_val (T.is_one_of.call G1 (hr.mono (by decide)) (pa_cons (pv 2) (pa_cons (pe_tup (pa_cons (pe_ix ix_tup (pv 3) pe_int (fun _ _ => rfl)) pa_nil)) pa_nil))))))) (pss_one (ps_ret (pv 3))) pss_nil))) pss_never, ?_⟩
    refine ⟨_, rfl, r_links (t := tVar 0) (σ := []) (H := H) n1 ⟨L, rfl, ⟨_, tyT n3⟩, for_it (walk_tup (xs := qs.map V.ref)) (fun i σ H' => Ex H H' ∧ (∀ j m, j < i → ls[j]? = some m → m ≠ l) ∧ ∃ y, σ = [some (.ref n), some (.str l.1), some (.str l.2.1), y]) ⟨Evl.Ex.refl H, fun j m hj => absurd hj (Nat.not_lt_zero _), _, rfl⟩ (fun i σ H' _ pv => tyT (pv.1 _ _ n3)) (fun i x σ H1 H1' hi pv y => ?_) (fun σ H' pv => ?_)⟩⟩
    · obtain ⟨e1, no, z, rfl⟩ := pv
      obtain ⟨rfl, hx⟩ := y
      obtain ⟨qa, m, rfl, h1, h2, _⟩ := links_get n4 hx
      have hm := (hn.links.each m (List.mem_of_getElem? h1))
      have hqa : H1' qa = some (.tup (lkV m)) := e1 _ _ h2
      -- what a turn that finds nothing leaves
      have on : ∀ H2, Ex H1' H2 → m ≠ l → Ex H H2 ∧ (∀ j m, j < i + 1 → ls[j]? = some m → m ≠ l) ∧ ∃ y, [some (V.ref n), some (.str l.1), some (.str l.2.1), some (.ref qa)] = [some (V.ref n), some (.str l.1), some (.str l.2.1), y] := fun H2 e2 ne => by
        refine ⟨e1.trans e2, fun j m' hj hm' => ?_, _, rfl⟩
        rcases Nat.lt_or_ge j i with z | z
        · exact no j m' z hm'
        · obtain rfl : j = i := by omega
          rw [h1] at hm'
          rw [← Option.some.inj hm']
          exact ne
      refine ⟨_, rfl, _, rfl, qa, _, 0, .str m.1, rfl, rfl, tyT hqa, rfl, sz1, fun c nc => ?_⟩
      have e2 : Ex H1' (upd H1' c (.tup [.str m.1])) := Ex.new nc
      refine ⟨l.1, c, [m.1], rfl, upd_same, ?_⟩
      by_cases c1 : l.1 = m.1
      · rw [decide_eq_true (List.mem_singleton.mpr c1)]
        refine ⟨true, rfl, ?_⟩
        refine iteT ⟨_, rfl, _, rfl, qa, _, 1, .str m.2.1, rfl, rfl, tyT (e2 _ _ hqa), rfl, sz1, fun c' nc' => ?_⟩
        have e3 : Ex H1' (upd (upd H1' c (.tup [.str m.1])) c' (.tup [.str m.2.1])) := ex_upd e2 (Evl.fresh_back e2 nc')
        refine ⟨l.2.1, c', [m.2.1], rfl, upd_same, ?_⟩
        by_cases c2 : l.2.1 = m.2.1
        · rw [decide_eq_true (List.mem_singleton.mpr c2)]
          have em : m = l := hn.links.one (List.mem_of_getElem? h1) hl c1.symm c2.symm
          refine ⟨true, rfl, iteT ⟨_, rfl, q _ qa (e1.trans e3) ?_⟩⟩
          rw [← em]
          exact e3 _ _ hqa
        · rw [decide_eq_false (fun z => c2 (List.mem_singleton.mp z))]
          exact ⟨false, rfl, iteF (on _ e3 fun z => c2 (by rw [z]))⟩
      · rw [decide_eq_false (fun z => c1 (List.mem_singleton.mp z))]
        exact ⟨false, rfl, iteF (iteF (on _ e2 fun z => c1 (by rw [z])))⟩
    · obtain ⟨_, no, _⟩ := pv
      obtain ⟨j, hj, e⟩ := List.getElem_of_mem hl
      have : (qs.map V.ref).length = ls.length := by rw [List.length_map]; exact paired_len n4
      exact no j l (by omega) (by rw [List.getElem?_eq_getElem hj, e]) rfl
end
end QT
namespace QT
open PySem PySem.Spec PyProof.Rows L2 QS QR
open Evl (Ex)
/-! ### tuple(sorted(set(links))) -/
def lkK (l : Lk) : List Key := [.inr l.1, .inr l.2.1, .inl l.2.2.1, .inl l.2.2.2]
theorem lkK_V (l : Lk) : (lkK l).map kV = lkV l := rfl
theorem lkK_inj {l m : Lk} (h : lkK l = lkK m) : l = m := by
  obtain ⟨a, b, c, d⟩ := l
  obtain ⟨a', b', c', d'⟩ := m
  unfold lkK at h
  injection h with h1 h
  injection h with h2 h
  injection h with h3 h
  injection h with h4 _
  have e1 : a = a' := Sum.inr.inj h1
  have e2 : b = b' := Sum.inr.inj h2
  have e3 : c = c' := Sum.inl.inj h3
  have e4 : d = d' := Sum.inl.inj h4
  rw [e1, e2, e3, e4]
def Apart (ls : List Lk) : Prop := ls.Pairwise fun l m => ¬ (l.1 = m.1 ∧ l.2.1 = m.2.1)
theorem lex_plt {l m : Lk} (h : lexLt itemOrd ((lkK m).map toI) ((lkK l).map toI) = false) (ne : ¬ (l.1 = m.1 ∧ l.2.1 = m.2.1)) : plt l m := by
  have e : lexLt itemOrd ((lkK m).map toI) ((lkK l).map toI) = (decide (slt m.1 l.1) || (!decide (slt l.1 m.1) && (decide (slt m.2.1 l.2.1) || (!decide (slt l.2.1 m.2.1) && lexLt itemOrd [.inl m.2.2.1, .inl m.2.2.2] [.inl l.2.2.1, .inl l.2.2.2])))) := rfl
  rw [e] at h
  simp only [Bool.or_eq_false_iff, decide_eq_false_iff_not] at h
  obtain ⟨h1, h2⟩ := h
  rcases slt_tri l.1 m.1 with z | z | z
  · exact .inl z
  · refine .inr ⟨z, ?_⟩
    rw [z, decide_eq_false (slt_irrefl _)] at h2
    simp only [Bool.not_false, Bool.true_and, Bool.or_eq_false_iff, decide_eq_false_iff_not] at h2
    rcases slt_tri l.2.1 m.2.1 with y | y | y
    · exact y
    · exact absurd ⟨z, y⟩ ne
    · exact absurd y h2.1
  · exact absurd z h1
def shL : Nat → Bool := fun i => decide (i < 2)
theorem shL_ok (l : Lk) : ∀ (j : Nat) (q : Key), (lkK l)[j]? = some q → shL j = (match q with | .inr _ => true | .inl _ => false)
  | 0, q, h => by cases h; rfl
  | 1, q, h => by cases h; rfl
  | 2, q, h => by cases h; rfl
  | 3, q, h => by cases h; rfl
  | j + 4, q, h => by cases h
theorem pair_up {H : Hp} : ∀ {qs : List Addr} {ls : List Lk}, LinksAt H qs ls → ∃ ks : List (Addr × List Key), ks.map Prod.fst = qs ∧ ks.map Prod.snd = ls.map lkK ∧ (∀ p ∈ ks, H p.1 = some (.tup (p.2.map kV)))
  | _, _, .nil => ⟨[], rfl, rfl, fun p hp => by cases hp⟩
  | _, _, .cons (a := q) (b := l) r t => by
    obtain ⟨ks, e1, e2, h⟩ := pair_up t
    refine ⟨(q, lkK l) :: ks, by rw [List.map_cons, e1], by rw [List.map_cons, e2]; rfl, fun p hp => ?_⟩
    rcases List.mem_cons.mp hp with z | z
    · rw [z]; exact r
    · exact h p z
theorem pull_apart {H : Hp} : ∀ {ks : List (Addr × List Key)}, (∀ p ∈ ks, H p.1 = some (.tup (p.2.map kV))) → (∀ p ∈ ks, ∃ l : Lk, p.2 = lkK l) → ∃ ls : List Lk, ks.map Prod.snd = ls.map lkK ∧ LinksAt H (ks.map Prod.fst) ls
  | [], _, _ => ⟨[], rfl, .nil⟩
  | p :: ks, h1, h2 => by
    obtain ⟨ls, e, hl⟩ := pull_apart (ks := ks) (fun q hq => h1 q (List.mem_cons_of_mem _ hq)) fun q hq => h2 q (List.mem_cons_of_mem _ hq)
    obtain ⟨l, el⟩ := h2 p List.mem_cons_self
    refine ⟨l :: ls, by rw [List.map_cons, List.map_cons, e, el], .cons ?_ hl⟩
    show H p.1 = some (.tup (lkV l))
    rw [h1 p List.mem_cons_self, el]
    rfl
theorem map_lkK_inj : ∀ {as bs : List Lk}, as.map lkK = bs.map lkK → as = bs
  | [], [], _ => rfl
  | [], _ :: _, h => by cases h
  | _ :: _, [], h => by cases h
  | a :: as, b :: bs, h => by
    rw [List.map_cons, List.map_cons] at h
    injection h with h1 h2
    rw [lkK_inj h1, map_lkK_inj h2]
section
variable {P : Program} {w : World} {K : PySem.W.Frag} {mg : Str → Option Value} {base : Heap}
def rTup (K : PySem.W.Frag) : List V → Hp → VK → Prop := fun xs H Q => ∃ p ys, xs = [.ref p] ∧ ((SqL K H p ys ∧ ∀ l, H l = none → Q (.ref l) (upd H l (.tup ys))) ∨ (SqT K H p ys ∧ Q (.ref p) H))
theorem call_tup {X : Cx} : CallR X (.type "tuple") (rTup X.K) := call_tuple_of
/-- the three calls, told of links that stand at l -/
theorem r_tss {H : Hp} {l : Addr} {qs : List Addr} {ls : List Lk} {Q : VK} (hl : H l = some (.lst (qs.map V.ref))) (hq : LinksAt H qs ls) (ap : Apart ls) (few : ls.length < 64)
    (q : ∀ H' T qs' ls', Ex H H' → H' T = some (.tup (qs'.map V.ref)) → LinksAt H' qs' ls' → ls'.Perm ls → ls'.Pairwise plt → Q (.ref T) H') :
    rSetUs K P w [.ref l] H fun x H1 => rSortedUs K P w [x] H1 fun y H2 => rTup K [y] H2 Q := by
  obtain ⟨ks, e1, e2, hk⟩ := pair_up hq
  have lq : qs.length = ls.length := paired_len hq
  have lk : ks.length = ls.length := by rw [← lq, ← e1, List.length_map]
  have nd : (ks.map Prod.snd).Nodup := by
    rw [e2]
    refine List.pairwise_map.mpr (ap.imp fun {a b} n e => n ?_)
    rw [lkK_inj e]
    exact ⟨rfl, rfl⟩
  have isL : ∀ p ∈ ks, ∃ m : Lk, p.2 = lkK m := fun p hp => by
    have : p.2 ∈ ls.map lkK := by rw [← e2]; exact List.mem_map.mpr ⟨p, hp, rfl⟩
    obtain ⟨m, _, e⟩ := List.mem_map.mp this
    exact ⟨m, e.symm⟩
  have refs : ∀ ks : List (Addr × List Key), (ks.map fun p => V.ref p.1) = (ks.map Prod.fst).map V.ref := fun ks => by rw [List.map_map]; rfl
  refine ⟨l, ks, rfl, tyL (by rw [refs, e1]; exact hl), fun p hp => tyT (hk p hp), nd, by rw [lk]; exact few, fun a na => ?_⟩
  have x1 : Ex H (upd H a (SetUO P w a ks)) := Ex.new na
  refine ⟨a, ks, shL, rfl, upd_same, fun p hp => tyT (x1 _ _ (hk p hp)), fun p hp => ?_, fun p hp j k h => ?_, fun L p pm sr np => ?_⟩
  · obtain ⟨m, e⟩ := isL p hp
    rw [e]
    exact fun z => nomatch z
  · obtain ⟨m, e⟩ := isL p hp
    rw [e] at h
    exact shL_ok m j k h
  have x2 : Ex H (upd (upd H a (SetUO P w a ks)) p (.lst (L.map fun p => V.ref p.1))) := ex_upd x1 (Evl.fresh_back x1 np)
  refine ⟨p, _, rfl, .inl ⟨tyL upd_same, fun T nT => ?_⟩⟩
  have x3 := ex_upd (o := .tup (L.map fun p => V.ref p.1)) x2 (Evl.fresh_back x2 nT)
  have hkL : ∀ p ∈ L, H p.1 = some (.tup (p.2.map kV)) := fun p hp => hk p (pm.mem_iff.mp hp)
  obtain ⟨ls', f1, f2⟩ := pull_apart hkL fun p hp => isL p (pm.mem_iff.mp hp)
  have pl : ls'.Perm ls := by
    have z : (ls'.map lkK).Perm (ls.map lkK) := by rw [← f1, ← e2]; exact pm.map _
    have inv : ∀ l : Lk, (fun k : List Key => match k with | [.inr a, .inr b, .inl c, .inl d] => ((a, b, c, d) : Lk) | _ => lk0) (lkK l) = l := fun l => rfl
    have z2 := z.map (fun k : List Key => match k with | [.inr a, .inr b, .inl c, .inl d] => ((a, b, c, d) : Lk) | _ => lk0)
    rw [List.map_map, List.map_map] at z2
    have id1 : ∀ ms : List Lk, ms.map ((fun k : List Key => match k with | [.inr a, .inr b, .inl c, .inl d] => ((a, b, c, d) : Lk) | _ => lk0) ∘ lkK) = ms := fun ms => by
      conv => rhs; rw [← List.map_id ms]
      exact List.map_congr_left fun l _ => inv l
    rw [id1, id1] at z2
    exact z2
  refine q _ T (L.map Prod.fst) ls' x3 (by rw [upd_same, refs]) (linksAt_mono (fun a xs z => x3 _ _ z) f2) pl ?_
  have sr2 : (L.map Prod.snd).Pairwise fun x y => lexLt itemOrd (y.map toI) (x.map toI) = false := List.pairwise_map.mpr sr
  rw [f1] at sr2
  have sr3 := List.pairwise_map.mp sr2
  have ap' : Apart ls' := (pl.pairwise_iff (fun {a b} h z => h ⟨z.1.symm, z.2.symm⟩)).mpr ap
  exact List.Pairwise.imp₂ (fun a b h n => lex_plt h n) sr3 ap'
/-! ### lengths_of -/
def sp_lengths_of (C : Addr) : Sp := fun vs H Q _ => ∃ (n : Addr) (ns : List Str) (ls : List Lk), vs = [.ref n] ∧ NetAt C H n ns ls ∧ ∀ p H', H p = none → Ex H H' → H' p = some (.dT (dictE (edgesOf ls))) → Q (.ref p) H'
theorem dict_next {ns : List Str} {ls : List Lk} (lk : LinksOk ns ls) {i : Nat} {l : Lk} (hi : ls[i]? = some l) :
    putK (putK (dictE (edgesOf (ls.take i))) [.inr l.1, .inr l.2.1] (.int l.2.2.1)) [.inr l.2.1, .inr l.1] (.int l.2.2.2) = dictE (edgesOf (ls.take (i + 1))) := by
  obtain ⟨n1, n2⟩ := next_new lk hi
  rw [putK_new _ (valV_dictE_none.mpr n1)]
  have e1 : dictE (edgesOf (ls.take i)) ++ [([Sum.inr l.1, Sum.inr l.2.1], V.int l.2.2.1)] = dictE (edgesOf (ls.take i) ++ [(l.1, l.2.1, l.2.2.1)]) := by
    unfold dictE
    rw [List.map_append]
    rfl
  rw [e1, putK_new _ (valV_dictE_none.mpr n2), List.take_succ, hi]
  show _ = dictE (edgesOf (ls.take i ++ [l]))
  rw [edges_snoc]
  unfold dictE
  rw [List.map_append, List.map_append, List.append_assoc]
  rfl
theorem dict_len {ns : List Str} {ls : List Lk} (lk : LinksOk ns ls) (i : Nat) : (dictE (edgesOf (ls.take i))).length ≤ 32 := by
  have h : ∀ ms : List Lk, (edgesOf ms).length = 2 * ms.length := by
    intro ms
    induction ms with
    | nil => rfl
    | cons m ms ih =>
      show (edgesOf (m :: ms)).length = _
      unfold edgesOf at ih ⊢
      rw [List.flatMap_cons, List.length_append, ih, List.length_cons]
      show 2 + 2 * ms.length = 2 * (ms.length + 1)
      omega
  unfold dictE
  rw [List.length_map, h, List.length_take]
  have := lk.most
  omega
theorem ok_lengths_of (T : TX K mg) : FnOk P w K mg base CX0 3 T.lengths_of.f T.lengths_of.d ["net"] (sp_lengths_of T.CN) := by
  refine T.lengths_of.F.ok sc_lengths_of (fun vs H Q E h => ?_) (fun cdv A outer s H vs Q E hr h => ?_)
  · obtain ⟨n, ns, ls, rfl, _⟩ := h
    rfl
  · obtain ⟨n, ns, ls, rfl, hn, q⟩ := h
    obtain ⟨dx, R, L, qs, n1, n2, n3, n4⟩ := hn.ex
    have hu := hu_of hr
    refine ⟨_, pss_cons (ps_set (i := 1) sc_lengths_of.nd rfl (.inl rfl) pe_dnewT) (pss_cons (ps_for PassesOwn.never rfl (pi_tup (p_links T hr (pv 0)))
        (pg_tup rfl (pgs_cons (pg_name (i := 2) sc_lengths_of.nd rfl (.inl rfl)) (pgs_cons (pg_name (i := 3) sc_lengths_of.nd rfl (.inl rfl)) (pgs_cons (pg_name (i := 4) sc_lengths_of.nd rfl (.inl rfl)) (pgs_cons (pg_name (i := 5) sc_lengths_of.nd rfl (.inl rfl)) pgs_nil)))))
      (pss_cons (ps_dput hu (pv 1) (pe_tup (pa_cons (pv 2) (pa_cons (pv 3) pa_nil))) (pv 4) rfl) (pss_one (ps_dput hu (pv 1) (pe_tup (pa_cons (pv 3) (pa_cons (pv 2) pa_nil))) (pv 5) rfl))))
      (pss_one (ps_ret (pv 1)))), ?_⟩
    intro p np
    have e0 : Ex H (upd H p (.dT [])) := Ex.new np
    refine ⟨_, rfl, r_links (t := tVar 0) (σ := []) (H := H) (e0 _ _ n1) ⟨L, rfl, ⟨_, tyT (e0 _ _ n3)⟩, for_it (walk_tup (xs := qs.map V.ref)) (fun i σ H' => Ex H H' ∧ H' p = some (.dT (dictE (edgesOf (ls.take i)))) ∧ ∃ a b c d, σ = [some (.ref n), some (.ref p), a, b, c, d]) ⟨e0, upd_same, _, _, _, _, rfl⟩ (fun i σ H' _ pv => tyT (pv.1 _ _ n3)) (fun i x σ H1 H1' hi pv y => ?_) (fun σ H' pv => ?_)⟩⟩
    · obtain ⟨e1, hp, a, b, c, d, rfl⟩ := pv
      obtain ⟨rfl, hx⟩ := y
      obtain ⟨qa, m, rfl, h1, h2, _⟩ := links_get n4 hx
      have hqa : H1' qa = some (.tup (lkV m)) := e1 _ _ h2
      refine ⟨qa, _, rfl, tyT hqa, rfl, _, _, rfl, _, _, rfl, _, _, rfl, _, _, rfl, rfl, ?_⟩
      refine ⟨_, rfl, _, rfl, _, rfl, _, rfl, sz2, fun k nk => ?_⟩
      have pk : p ≠ k := ne_of_none hp nk
      have hp1 : (upd H1' k (.tup [.str m.1, .str m.2.1])) p = some (.dT (dictE (edgesOf (ls.take i)))) := by rw [upd_ne pk]; exact hp
      refine ⟨p, _, rfl, DPut.t (k := [.inr m.1, .inr m.2.1]) hp1 upd_same (smallT (by have := dict_len hn.links i; omega)), ?_⟩
      refine ⟨_, rfl, _, rfl, _, rfl, _, rfl, sz2, fun k2 nk2 => ?_⟩
      have pk2 : p ≠ k2 := ne_of_none upd_same nk2
      refine ⟨p, _, rfl, DPut.t (k := [.inr m.2.1, .inr m.1]) (by rw [upd_ne pk2, upd_same]) upd_same (smallT ?_), ?_⟩
      · have : ∀ (kvs : List (List Key × V)) k v, (putK kvs k v).length ≤ kvs.length + 1 := fun kvs k v => by
          unfold putK
          split
          · rw [List.length_map]; omega
          · rw [List.length_append]; exact Nat.le_refl _
        have h3 := this (dictE (edgesOf (ls.take i))) [.inr m.1, .inr m.2.1] (.int m.2.2.1)
        have h4 := dict_len hn.links i
        omega
      · refine ⟨?_, by rw [upd_same, dict_next hn.links h1], _, _, _, _, rfl⟩
        have g1 : Ex H (upd H1' k (.tup [.str m.1, .str m.2.1])) := e1.trans (Ex.new nk)
        have g2 := ex_upd (o := .dT (putK (dictE (edgesOf (ls.take i))) [.inr m.1, .inr m.2.1] (.int m.2.2.1))) g1 np
        have g3 := ex_upd (o := .tup [.str m.2.1, .str m.1]) g2 (Evl.fresh_back g2 nk2)
        exact ex_upd g3 np
    · obtain ⟨e1, hp, a, b, c, d, rfl⟩ := pv
      refine ⟨_, rfl, q p H' np e1 ?_⟩
      rw [hp, List.take_of_length_le (by rw [List.length_map]; exact Nat.le_of_eq (paired_len n4).symm)]
end
end QT
namespace QT
open PySem PySem.Spec PyProof.Rows L2 QS QR
open Evl (Ex)
def FOf (kvs : List (Key × V)) (f : Str → Option Int) : Prop := ∀ r, valV kvs (.inr r) = (f r).map V.int
theorem put_len {κ : Type} [DecidableEq κ] (kvs : List (κ × V)) (k : κ) (v : V) : (putK kvs k v).length ≤ kvs.length + 1 := by
  unfold putK
  split
  · rw [List.length_map]; omega
  · rw [List.length_append]; exact Nat.le_refl _
theorem FOf.put {kvs : List (Key × V)} {f : Str → Option Int} (h : FOf kvs f) (u : Str) (n : Int) : FOf (putK kvs (.inr u) (.int n)) fun r => if r = u then some n else f r := by
  intro r
  rw [valV_put]
  show _ = Option.map V.int (if r = u then some n else f r)
  by_cases e : r = u
  · rw [if_pos (congrArg Sum.inr e), if_pos e]
    rfl
  · rw [if_neg (fun z => e (Sum.inr.inj z)), if_neg e]
    exact h r
section
variable {P : Program} {w : World} {K : PySem.W.Frag} {mg : Str → Option Value} {base : Heap}
structure EdgesOk (ns : List Str) (es : List Edge) : Prop where
  nd : KeysNd es
  pos : QM.Pos es
  inn : ∀ u v n, (u, v, n) ∈ es → u ∈ ns
  few : es.length ≤ 100
def sp_distances_to : Sp := fun vs H Q _ => ∃ (R L : Addr) (es : List Edge) (ns : List Str) (d : Str), vs = [.ref R, .ref L, .str d] ∧ H R = some (.tup (ns.map V.str)) ∧ H L = some (.dT (dictE es)) ∧ EdgesOk ns es ∧ ns.length ≤ 100 ∧
  ∀ p kvs H', H p = none → Ex H H' → H' p = some (.dK kvs) → FOf kvs (fun r => QM.dist es r d) → Q (.ref p) H'
theorem ok_distances_to (T : TX K mg) : FnOk P w K mg base CX0 1 T.distances_to.f T.distances_to.d ["routers", "lengths", "d"] sp_distances_to := by
  refine T.distances_to.F.ok sc_distances_to (fun vs H Q E h => ?_) (fun cdv A outer s H vs Q E hr h => ?_)
  · obtain ⟨R, L, es, ns, d, rfl, _⟩ := h
    rfl
  · obtain ⟨R, L, es, ns, d, rfl, hR, hL, ok, n100, q⟩ := h
    have hu := hu_of hr
    have i1 : ∀ {X : Cx}, True := fun {X} => trivial
    refine ⟨_, pss_cons (ps_set (i := 3) sc_distances_to.nd rfl (.inl rfl) (pe_disp (pps_cons (pv 2) pe_int pps_nil) (by rfl) (by rfl) (fun z => by cases z) (by decide)))
      (pss_cons (ps_for PassesOwn.never rfl (pi_range1 (by rfl) T.n_range (pa_cons (pe_callB call_len_seq (by rfl) T.n_len PySem.boot_len (pa_cons (pv 0) pa_nil)) pa_nil)) (pg_name (i := 4) sc_distances_to.nd rfl (.inl rfl))
        (pss_one (ps_lock (ps_for PassesOwn.never rfl (pi_keys (pv 1)) (pg_name (i := 5) sc_distances_to.nd rfl (.inl rfl))
          (pss_one (ps_if (pt_cmp (pc_din hu (pe_ix ix_tup (pv 5) pe_int (fun _ _ => rfl)) (pv 3)))
            (pss_cons (ps_set (i := 6) sc_distances_to.nd rfl (.inl rfl) (pe_op op_add (pe_dget hu (pv 1) (pv 5) (fun _ _ => rfl)) (pe_dget hu (pv 3) (pe_ix ix_tup (pv 5) pe_int (fun _ _ => rfl)) (fun _ _ => rfl))))
            (pss_one (ps_if (PW.pt (pw_or (pt_cmp (pc_dnotin hu (pe_ix ix_tup (pv 5) pe_int (fun _ _ => rfl)) (pv 3))) (pw_or1 (pt_cmpR op_lt (pv 6) (pe_dget hu (pv 3) (pe_ix ix_tup (pv 5) pe_int (fun _ _ => rfl)) (fun _ _ => rfl)) (nomark _)))))
              (pss_one (ps_dput hu (pv 3) (pe_ix ix_tup (pv 5) pe_int (fun _ _ => rfl)) (pv 6) rfl)) pss_nil))) pss_nil))))))
      (pss_one (ps_ret (pv 3)))), ?_⟩
    intro p np
    refine ⟨_, rfl, upd_same, [(.inr d, .int 0)], rfl, (by show 1 ≤ 15; decide), ?_⟩
    have pL : p ≠ L := fun z => by rw [z, hL] at np; cases np
    have m0 : mergeK [] [((.inr d : Key), V.int 0)] = [(.inr d, .int 0)] := rfl
    rw [m0, upd_upd]
    have e0 : Ex H (upd H p (.dK [(.inr d, .int 0)])) := Ex.new np
    refine ⟨_, rfl, R, _, rfl, .inr (tyT (e0 _ _ hR)), (ns.map V.str).length, rfl, ?_, ?_, for_range (n := ((ns.map V.str).length : Int).toNat) (fun i σ H' => Ex H H' ∧ ∃ kvs f, H' p = some (.dK kvs) ∧ FOf kvs f ∧ QM.Sound es d f ∧ QM.Comp es d i f ∧ kvs.length ≤ 1 + i * es.length ∧ ∃ a b c, σ = [some (.ref R), some (.ref L), some (.str d), some (.ref p), a, b, c]) ?_ (fun i σ H1 hi pv => ?_) (fun σ H1 pv => ?_)⟩
    · have := Int.natCast_nonneg (ns.map V.str).length
      omega
    · rw [List.length_map]
      omega
    · refine ⟨e0, _, fun r => if r = d then some 0 else none, upd_same, fun r => ?_, QM.Sound.start (fun r m h => ?_), QM.Comp.start (if_pos rfl), by show 1 ≤ _; omega, _, _, _, rfl⟩
      · by_cases c : r = d
        · rw [c]
          show _ = Option.map V.int (if d = d then some 0 else none)
          rw [if_pos rfl]
          exact valV_pos rfl
        · show _ = Option.map V.int (if r = d then some 0 else none)
          rw [if_neg c]
          exact valV_neg (fun z => c (Sum.inr.inj z).symm)
      · by_cases c : r = d
        · rw [if_pos c] at h
          exact ⟨c, (Option.some.inj h).symm⟩
        · rw [if_neg c] at h
          cases h
    · obtain ⟨e1, kvs0, g, hp0, fo0, so0, co0, le0, a, b, c, rfl⟩ := pv
      have hL1 : H1 L = some (.dT (dictE es)) := e1 _ _ hL
      refine ⟨L, .dT (dictE es), hL1, trivial, fun od => ?_⟩
      refine ⟨_, rfl, L, od, rfl, .inr ⟨dictE es, upd_same, for_it walk_keysT (fun j σ H' => H' L = some (.frz od (.dT (dictE es))) ∧ (∀ z, z ≠ p → z ≠ L → H' z = H1 z) ∧ ∃ kvs f, H' p = some (.dK kvs) ∧ FOf kvs f ∧ QM.Rnd es d g (es.take j) f ∧ kvs.length ≤ kvs0.length + j ∧ ∃ b c, σ = [some (.ref R), some (.ref L), some (.str d), some (.ref p), some (.int (0 + (i : Int))), b, c]) ?_ (fun j σ H' _ pv => pv.1) (fun j x σ H2 H2' hj pv y => ?_) (fun σ H' pv => ?_)⟩⟩
      · exact ⟨upd_same, fun z _ hz => upd_ne hz, kvs0, g, by rw [upd_ne pL]; exact hp0, fo0, QM.Rnd.start so0, Nat.le_refl _, _, _, rfl⟩
      · obtain ⟨hLf, hz, kvs, f, hp, fo, rn, le, b, c, rfl⟩ := pv
        obtain ⟨rfl, k, v, qk, hx, rfl, hqk⟩ := y
        obtain ⟨e, he, ke, ve⟩ : ∃ e, es[j]? = some e ∧ k = keyE e ∧ v = .int e.2.2 := by
          unfold dictE at hx
          rw [List.getElem?_map] at hx
          cases h1 : es[j]? with
          | none => rw [h1] at hx; cases hx
          | some e =>
            rw [h1] at hx
            have := Option.some.inj hx
            injection this with i1 i2
            exact ⟨e, rfl, i1.symm, i2.symm⟩
        subst ke ve
        obtain ⟨u, v, l⟩ := e
        have hm : (u, v, l) ∈ es := List.mem_of_getElem? he
        have tk : es.take (j + 1) = es.take j ++ [(u, v, l)] := by
          rw [List.take_succ, he]
          rfl
        have hj' : j < es.length := by
          have := (List.getElem?_eq_some_iff.mp he).1
          exact this
        have small : kvs.length + 1 < sizeLine := by
          have h2 : i < ns.length := by rw [List.length_map] at hi; omega
          have h3 : i * es.length ≤ 100 * 100 := Nat.mul_le_mul (by omega) ok.few
          have h4 := ok.few
          have := smallT (n := kvs.length + 1) (by omega)
          exact this
        have hq : H2' qk = some (.tup [.str u, .str v]) := hqk
        have gl : valV (dictE es) [.inr u, .inr v] = some (.int l) := (valV_dictE ok.nd).mpr hm
        have dl : DGet H2' L (.ref qk) (some (.int l)) := by
          rw [← gl]
          exact .inr ⟨dictE es, [.inr u, .inr v], qk, .inr ⟨od, hLf⟩, rfl, hq, rfl⟩
        have dg : ∀ r : Str, DGet H2' p (.str r) ((f r).map V.int) := fun r => by
          rw [← fo r]
          exact DGet.k (k := .inr r) hp
        -- what a turn leaves
        have put : (∀ x, f u = some x → ∀ y, f v = some y → l + y ≤ x) → ∀ y, f v = some y → ∀ c', (fun σ H' => H' L = some (.frz od (.dT (dictE es))) ∧ (∀ z, z ≠ p → z ≠ L → H' z = H1 z) ∧ ∃ kvs f, H' p = some (.dK kvs) ∧ FOf kvs f ∧ QM.Rnd es d g (es.take (j + 1)) f ∧ kvs.length ≤ kvs0.length + (j + 1) ∧ ∃ b c, σ = [some (V.ref R), some (.ref L), some (.str d), some (.ref p), some (.int (0 + (i : Int))), b, c]) [some (V.ref R), some (.ref L), some (.str d), some (.ref p), some (.int (0 + (i : Int))), some (.ref qk), c'] (upd H2' p (.dK (putK kvs (.inr u) (.int (l + y))))) := fun h y hy c' => by
          refine ⟨by rw [upd_ne (Ne.symm pL)]; exact hLf, fun z h1 h2 => by rw [upd_ne h1]; exact hz z h1 h2, _, _, upd_same, fo.put u (l + y), ?_, by have := put_len kvs (.inr u : Key) (.int (l + y)); omega, _, _, rfl⟩
          rw [tk]
          exact rn.put hm hy (fun x hx => h x hx y hy) (if_pos rfl) fun r hr => if_neg hr
        have keep : QM.Rnd es d g (es.take j ++ [(u, v, l)]) f → ∀ c', (fun σ H' => H' L = some (.frz od (.dT (dictE es))) ∧ (∀ z, z ≠ p → z ≠ L → H' z = H1 z) ∧ ∃ kvs f, H' p = some (.dK kvs) ∧ FOf kvs f ∧ QM.Rnd es d g (es.take (j + 1)) f ∧ kvs.length ≤ kvs0.length + (j + 1) ∧ ∃ b c, σ = [some (V.ref R), some (.ref L), some (.str d), some (.ref p), some (.int (0 + (i : Int))), b, c]) [some (V.ref R), some (.ref L), some (.str d), some (.ref p), some (.int (0 + (i : Int))), some (.ref qk), c'] H2' := fun h c' => by
          refine ⟨hLf, hz, kvs, f, hp, fo, ?_, by omega, _, _, rfl⟩
          rw [tk]
          exact h
        refine ⟨_, rfl, qk, _, 1, .str v, rfl, rfl, tyT hq, rfl, _, rfl, p, _, rfl, dg v, ?_⟩
        cases hv : f v with
        | none => exact ⟨false, rfl, iteF (keep (rn.skip hv) _)⟩
        | some y =>
          have dv : DGet H2' p (.str v) (some (.int y)) := by
            have := dg v
            rw [hv] at this
            exact this
          refine ⟨true, rfl, iteT ⟨_, rfl, _, rfl, L, _, rfl, dl, _, rfl, _, rfl, qk, _, 1, .str v, rfl, rfl, tyT hq, rfl, p, _, rfl, dv, l, y, rfl, rfl, _, rfl, qk, _, 0, .str u, rfl, rfl, tyT hq, rfl, _, rfl, p, _, rfl, dg u, ?_⟩⟩
          cases hu' : f u with
          | none =>
            refine ⟨true, rfl, iteT (iteT ⟨_, rfl, _, rfl, _, rfl, qk, _, 0, .str u, rfl, rfl, tyT hq, rfl, p, _, rfl, DPut.k (k := .inr u) hp (by omega), ?_⟩)⟩
            exact put (fun x hx => by rw [hu'] at hx; cases hx) y hv _
          | some x =>
            have du : DGet H2' p (.str u) (some (.int x)) := by
              have := dg u
              rw [hu'] at this
              exact this
            refine ⟨false, rfl, iteF ⟨_, rfl, _, rfl, _, rfl, qk, _, 0, .str u, rfl, rfl, tyT hq, rfl, p, _, rfl, du, _, _, rfl, rfl, ?_⟩⟩
            by_cases c1 : l + y < x
            · refine ⟨_, congrArg V.bl (decide_eq_true c1), iteT ⟨_, rfl, _, rfl, _, rfl, qk, _, 0, .str u, rfl, rfl, tyT hq, rfl, p, _, rfl, DPut.k (k := .inr u) hp (by omega), ?_⟩⟩
              refine put (fun x' hx y' hy => ?_) y hv _
              rw [hu'] at hx
              rw [hv] at hy
              cases hx
              cases hy
              omega
            · refine ⟨_, congrArg V.bl (decide_eq_false c1), iteF (keep (rn.keep hv hu' (by omega)) _)⟩
      · obtain ⟨hLf, hz, kvs, f, hp, fo, rn, le, b, c, rfl⟩ := pv
        refine ⟨hLf, ?_, kvs, f, by rw [upd_ne pL]; exact hp, fo, rn.sound, QM.Rnd.fin (by rw [List.take_of_length_le (by unfold dictE; rw [List.length_map]; exact Nat.le_refl _)] at rn; exact rn) co0, ?_, _, _, _, rfl⟩
        · intro z o ho
          by_cases zL : z = L
          · rw [zL, upd_same, ← hL, ← zL, ho]
          · rw [upd_ne zL]
            rw [hz z (fun zp => by rw [zp, np] at ho; cases ho) zL]
            exact e1 _ _ ho
        · have : (dictE es).length = es.length := by unfold dictE; rw [List.length_map]
          have h2 : (i + 1) * es.length = i * es.length + es.length := Nat.succ_mul _ _
          omega
    · obtain ⟨e1, kvs, g, hp0, fo0, so0, co0, le0, a, b, c, rfl⟩ := pv
      refine ⟨_, rfl, q p kvs H1 np e1 hp0 fun r => ?_⟩
      rw [fo0 r, QM.rounds_fin ok.pos ok.inn so0 ?_ r]
      have : ((ns.map V.str).length : Int).toNat = ns.length := by rw [List.length_map]; rfl
      rw [this] at co0
      exact co0
end
end QT
namespace QT
open PySem PySem.Spec PyProof.Rows L2 QS QR
open Evl (Ex)
theorem given_filter {α : Type} (xs : List α) (F : α → Bool) (g : α → V) (d : α) : Evl.given xs.length (fun i => F (xs.getD i d)) (fun i => g (xs.getD i d)) = (xs.filter F).map g := by
  have h : (List.range xs.length).map (fun i => xs.getD i d) = xs := by
    have := range_map_getD (id : α → α) d xs
    rw [List.map_id] at this
    exact this
  unfold Evl.given
  conv => rhs; rw [← h, List.filter_map, List.map_map]
  rfl
open Classical in
noncomputable def nextsOf (ns : List Str) (es : List Edge) (u d : Str) : List Str := ns.filter fun n => decide (∃ l, (u, n, l) ∈ es ∧ QM.Stand es u n d l)
open Classical in
theorem mem_nexts {ns : List Str} {es : List Edge} {u d n : Str} : n ∈ nextsOf ns es u d ↔ n ∈ ns ∧ ∃ l, (u, n, l) ∈ es ∧ QM.Stand es u n d l := by
  unfold nextsOf
  rw [List.mem_filter, decide_eq_true_eq]
theorem nexts_len (ns : List Str) (es : List Edge) (u d : Str) : (nextsOf ns es u d).length ≤ ns.length := List.length_filter_le _ _
open Classical in
theorem nexts_none {ns : List Str} {es : List Edge} {u d : Str} (h : ∀ n l, ¬ QM.Stand es u n d l) : nextsOf ns es u d = [] := by
  unfold nextsOf
  exact List.filter_eq_nil_iff.mpr fun n _ e => by
    obtain ⟨l, _, z⟩ := of_decide_eq_true e
    exact h n l z
open Classical in
/-- the first test -/
noncomputable def fineP (es : List Edge) (u d : Str) (n : Str) : Bool := decide (∃ l, (u, n, l) ∈ es) && (QM.dist es n d).isSome
open Classical in
noncomputable def goodP (es : List Edge) (u d : Str) (n : Str) : Bool := decide (∃ l x, (u, n, l) ∈ es ∧ QM.dist es n d = some x ∧ QM.dist es u d = some (l + x))
open Classical in
theorem fineP_no {es : List Edge} {u d n : Str} (h : ∀ l, (u, n, l) ∉ es) : fineP es u d n = false := by
  unfold fineP
  rw [decide_eq_false (fun ⟨l, z⟩ => h l z)]
  rfl
open Classical in
theorem fineP_yes {es : List Edge} {u d n : Str} {l : Int} (h : (u, n, l) ∈ es) : fineP es u d n = (QM.dist es n d).isSome := by
  unfold fineP
  rw [decide_eq_true ⟨l, h⟩]
  rfl
open Classical in
theorem fineP_iff {es : List Edge} {u d n : Str} : fineP es u d n = true ↔ (∃ l, (u, n, l) ∈ es) ∧ (QM.dist es n d).isSome = true := by
  unfold fineP
  rw [Bool.and_eq_true, decide_eq_true_eq]
open Classical in
theorem goodP_iff {es : List Edge} {u d n : Str} : goodP es u d n = true ↔ ∃ l x, (u, n, l) ∈ es ∧ QM.dist es n d = some x ∧ QM.dist es u d = some (l + x) := by
  unfold goodP
  rw [decide_eq_true_eq]
open Classical in
theorem nexts_two {ns : List Str} {es : List Edge} {u d : Str} (ne : u ≠ d) : (ns.filter (fineP es u d)).filter (goodP es u d) = nextsOf ns es u d := by
  unfold nextsOf
  rw [List.filter_filter]
  refine List.filter_congr fun n _ => ?_
  unfold fineP goodP
  rw [Bool.eq_iff_iff, Bool.and_eq_true, Bool.and_eq_true, decide_eq_true_eq, decide_eq_true_eq, decide_eq_true_eq]
  constructor
  · rintro ⟨⟨l, x, h1, h2, h3⟩, _⟩
    exact ⟨l, h1, ne, x, h2, h3⟩
  · rintro ⟨l, h1, _, x, h2, h3⟩
    exact ⟨⟨l, x, h1, h2, h3⟩, ⟨l, h1⟩, by rw [h2]; rfl⟩
section
variable {P : Program} {w : World} {K : PySem.W.Frag} {mg : Str → Option Value} {base : Heap}
def sp_nexts_by : Sp := fun vs H Q _ => ∃ (R L D : Addr) (es : List Edge) (ns : List Str) (kvs : List (Key × V)) (u d : Str), vs = [.ref R, .ref L, .ref D, .str u] ∧ H R = some (.tup (ns.map V.str)) ∧ H L = some (.dT (dictE es)) ∧ H D = some (.dK kvs) ∧ FOf kvs (fun r => QM.dist es r d) ∧ EdgesOk ns es ∧ ns.length ≤ 100 ∧
  ∀ p H', Ex H H' → H' p = some (.tup ((nextsOf ns es u d).map V.str)) → Q (.ref p) H'
theorem ok_nexts_by (T : TX K mg) : FnOk P w K mg base CX0 1 T.nexts_by.f T.nexts_by.d ["routers", "lengths", "distances", "router"] sp_nexts_by := by
  refine T.nexts_by.F.ok sc_nexts_by (fun vs H Q E h => ?_) (fun cdv A outer s H vs Q E hr h => ?_)
  · obtain ⟨R, L, D, es, ns, kvs, u, d, rfl, _⟩ := h
    rfl
  · obtain ⟨R, L, D, es, ns, kvs, u, d, rfl, hR, hL, hD, fo, ok, n100, q⟩ := h
    have hu := hu_of hr
    refine ⟨_, pss_cons (ps_if (pt_cmpR op_eq (pe_dget2 hu (pv 2) (pv 3) pe_int ⟨rfl, rfl, rfl, rfl⟩) pe_int (nomark _)) (pss_one (ps_ret (pe_tup pa_nil))) pss_nil)
      (pss_cons (ps_setLc (i := 4) (own := [("n", 5)]) (g := gName 5) (tt := tAnd (tB (tDIn (tTup (tCons (tVar 3) (tCons (tVar 5) tNil))) (tVar 1))) (tB (tDIn (tVar 5) (tVar 2)))) (te := tVar 5) rfl sc_nexts_by.nd rfl rfl rfl (pi_tup (pv 0)) (blkOk_by (own := [("n", 5)]) (N := N_nexts_by) (sc := defScope s_nexts_by) (by decide +kernel))
          (fun _ _ _ _ _ => pg_name (i := 5) sc_nexts_by.nd rfl (.inl rfl)) (fun _ _ _ _ _ => pts_one (PW.pt (pw_and (pt_cmp (pc_din hu (pe_tup (pa_cons (pv 3) (pa_cons (pv 5) pa_nil))) (pv 1))) (pw_and1 (pt_cmp (pc_din hu (pv 5) (pv 2))))))) (fun _ _ _ _ _ => pv 5))
      (pss_one (ps_ret (pe_callTy call_tup (by rfl) T.n_tuple boot_tuple' (pa_cons (pe_lc (own := [("n", 5)]) (g := gName 5) (tt := tTest (tOp rEq (tOp (rI0 fun i j => .int (i + j)) (tDGet (tVar 1) (tTup (tCons (tVar 3) (tCons (tVar 5) tNil)))) (tDGet (tVar 2) (tVar 5))) (tDGet (tVar 2) (tVar 3)))) (te := tVar 5) rfl sc_nexts_by.nd (pi_list (pv 4)) (blkOk_by (own := [("n", 5)]) (N := N_nexts_by) (sc := defScope s_nexts_by) (by decide +kernel))
          (fun _ _ _ _ _ => pg_name (i := 5) sc_nexts_by.nd rfl (.inl rfl)) (fun _ _ _ _ _ => pts_one (pt_cmpR op_eq (pe_op op_add (pe_dget hu (pv 1) (pe_tup (pa_cons (pv 3) (pa_cons (pv 5) pa_nil))) (fun _ _ => rfl)) (pe_dget hu (pv 2) (pv 5) (fun _ _ => rfl))) (pe_dget hu (pv 2) (pv 3) (fun _ _ => rfl)) (nomark _))) (fun _ _ _ _ _ => pv 5)) pa_nil))))), ?_⟩
    have dg : ∀ H', Ex H H' → ∀ r : Str, DGet H' D (.str r) ((QM.dist es r d).map V.int) := fun H' e r => by
      rw [← fo r]
      exact DGet.k (k := .inr r) (e _ _ hD)
    have dl : ∀ H' k, Ex H H' → ∀ n : Str, H' k = some (.tup [.str u, .str n]) → DGet H' L (.ref k) (valV (dictE es) [.inr u, .inr n]) := fun H' k e n hk => DGet.t (k := [.inr u, .inr n]) (e _ _ hL) hk
    have nil : QM.Stand es u u d 0 ∨ True := .inr trivial
    -- where the answer is ()
    have no : (∀ n l, ¬ QM.Stand es u n d l) → ∀ (p : Addr), H p = none → Q (.ref p) (upd H p (.tup [])) := fun h p np => by
      refine q p _ (Ex.new np) ?_
      rw [nexts_none h]
      exact upd_same
    refine ⟨_, rfl, D, rfl, .inl ⟨kvs, .inl hD⟩, _, rfl, _, dg H (Evl.Ex.refl _) u, ?_⟩
    cases hd : QM.dist es u d with
    | none =>
      refine ⟨rfl, _, rfl, iteT ⟨sz0, fun p np => no (fun n l z => ?_) p np⟩⟩
      obtain ⟨_, x, _, h2⟩ := z
      rw [hd] at h2
      cases h2
    | some m =>
      refine ⟨rfl, _, rfl, ?_⟩
      show if decide (V.int m = V.int 0) = true then _ else _
      by_cases m0 : m = 0
      · rw [decide_eq_true (congrArg V.int m0)]
        refine iteT ⟨sz0, fun p np => no (fun n l z => ?_) p np⟩
        rw [m0] at hd
        exact z.1 (QM.dist_zero ok.pos hd)
      rw [decide_eq_false (fun z => m0 (V.int.inj z))]
      have ne : u ≠ d := fun z => by
        rw [z, QM.dist_self ok.pos] at hd
        exact m0 (Option.some.inj hd).symm
      refine iteF ?_
      refine ⟨_, rfl, R, rfl, ⟨_, tyT hR⟩, fun D1 nD1 => lcF (walk_tup (xs := ns.map V.str)) (by rw [List.length_map]; omega) (fun i => fineP es u d (ns.getD i Str.empty)) (fun i => V.str (ns.getD i Str.empty)) nD1 (fun H' e => tyT (e _ _ hR)) (fun i x H2 H2' hi e y RT RF rt rf => ?_) (fun H' e hD1 => ?_)⟩
      · obtain ⟨rfl, hx⟩ := y
        rw [List.getElem?_map] at hx
        cases h1 : ns[i]? with
        | none => rw [h1] at hx; cases hx
        | some n =>
          rw [h1] at hx
          obtain rfl : V.str n = x := Option.some.inj hx
          rw [getD_of h1] at rt rf
          refine ⟨rfl, _, rfl, _, rfl, sz2, fun k nk => ?_⟩
          have e2 : Ex H2' (upd H2' k (.tup [.str u, .str n])) := Ex.new nk
          refine ⟨_, rfl, L, _, rfl, dl _ k (e.trans e2) n upd_same, ?_⟩
          cases hv : valV (dictE es) [.inr u, .inr n] with
          | none =>
            have no2 := valV_dictE_none.mp hv
            exact ⟨false, rfl, iteF (iteF (rf (fineP_no no2) _ e2))⟩
          | some v =>
            obtain ⟨l, rfl, hl⟩ := valV_dictE_some hv
            refine ⟨true, rfl, iteT ⟨_, rfl, _, rfl, D, _, rfl, dg _ (e.trans e2) n, _, rfl, ?_⟩⟩
            have fe : fineP es u d n = (QM.dist es n d).isSome := fineP_yes hl
            rw [fe] at rt rf
            rw [Option.isSome_map]
            cases hc : (QM.dist es n d).isSome with
            | true => exact iteT ⟨_, rfl, rt hc _ e2⟩
            | false => exact iteF (rf hc _ e2)
      · have len : (ns.map V.str).length = ns.length := List.length_map _
        rw [len, given_filter] at hD1
        have fl : (ns.filter (fineP es u d)).length ≤ 100 := Nat.le_trans (List.length_filter_le _ _) n100
        refine ⟨_, rfl, D1, rfl, ⟨_, tyL hD1⟩, fun D2 nD2 => lcF (walk_list (xs := (ns.filter (fineP es u d)).map V.str)) (by rw [List.length_map]; omega) (fun i => goodP es u d ((ns.filter (fineP es u d)).getD i Str.empty)) (fun i => V.str ((ns.filter (fineP es u d)).getD i Str.empty)) nD2 (fun H' e => tyL (e _ _ hD1)) (fun i x H2 H2' hi e2 y RT RF rt rf => ?_) (fun H'' e2 hD2 => ?_)⟩
        · obtain ⟨rfl, hx⟩ := y
          rw [List.getElem?_map] at hx
          cases h1 : (ns.filter (fineP es u d))[i]? with
          | none => rw [h1] at hx; cases hx
          | some n =>
            rw [h1] at hx
            obtain rfl : V.str n = x := Option.some.inj hx
            rw [getD_of h1] at rt rf
            have fn := (List.mem_filter.mp (List.mem_of_getElem? h1)).2
            obtain ⟨⟨l, hl⟩, hs⟩ := fineP_iff.mp fn
            obtain ⟨y, hy⟩ := Option.isSome_iff_exists.mp hs
            have e3 := e.trans e2
            refine ⟨rfl, _, rfl, _, rfl, _, rfl, sz2, fun k nk => ?_⟩
            have e4 : Ex H2' (upd H2' k (.tup [.str u, .str n])) := Ex.new nk
            have g1 := dl _ k (e3.trans e4) n upd_same
            rw [(valV_dictE ok.nd).mpr hl] at g1
            have g2 := dg _ (e3.trans e4) n
            rw [hy] at g2
            have g3 := dg _ (e3.trans e4) u
            rw [hd] at g3
            refine ⟨L, _, rfl, g1, _, rfl, _, rfl, D, _, rfl, g2, l, y, rfl, rfl, _, rfl, _, rfl, D, _, rfl, g3, rfl, _, rfl, ?_⟩
            have ge : goodP es u d n = decide (V.int (l + y) = V.int m) := by
              rw [Bool.eq_iff_iff, goodP_iff, decide_eq_true_eq]
              constructor
              · rintro ⟨l', x', h1, h2, h3⟩
                rw [hy] at h2
                rw [hd] at h3
                have i1 := (valV_dictE ok.nd).mpr h1
                rw [(valV_dictE ok.nd).mpr hl] at i1
                have i2 := V.int.inj (Option.some.inj i1)
                have i3 := Option.some.inj h2
                have i4 := Option.some.inj h3
                rw [i2, i3, i4]
              · intro z
                exact ⟨l, y, hl, hy, by rw [hd, V.int.inj z]⟩
            rw [ge] at rt rf
            cases hc : decide (V.int (l + y) = V.int m) with
            | true => exact iteT ⟨_, rfl, rt hc _ e4⟩
            | false => exact iteF (rf hc _ e4)
        · have len2 : ((ns.filter (fineP es u d)).map V.str).length = (ns.filter (fineP es u d)).length := List.length_map _
          rw [len2, given_filter, nexts_two ne] at hD2
          refine ⟨D2, _, rfl, .inl ⟨tyL hD2, fun p np => ?_⟩⟩
          exact q p _ ((e.trans e2).trans (Ex.new np)) upd_same
end
end QT
namespace QT
open PySem PySem.Spec PyProof.Rows L2 QS QR
open Evl (Ex)
/-- what a table tells of u and d -/
def TabAt (H : Hp) (kvs : List (List Key × V)) (ns : List Str) (es : List Edge) (u d : Str) : Prop := ∃ q, valV kvs [.inr u, .inr d] = some (.ref q) ∧ H q = some (.tup ((nextsOf ns es u d).map V.str))
theorem TabAt.put {H : Hp} {kvs : List (List Key × V)} {ns : List Str} {es : List Edge} {u d : Str} (h : TabAt H kvs ns es u d) (u' d' : Str) {q : Addr} (hq : H q = some (.tup ((nextsOf ns es u' d').map V.str))) : TabAt H (putK kvs [.inr u', .inr d'] (.ref q)) ns es u d := by
  obtain ⟨q0, h1, h2⟩ := h
  unfold TabAt
  rw [valV_put]
  by_cases c : ([Sum.inr u, Sum.inr d] : List Key) = [.inr u', .inr d']
  · rw [if_pos c]
    injection c with c1 c2
    injection c2 with c2 _
    rw [Sum.inr.inj c1, Sum.inr.inj c2]
    exact ⟨q, rfl, hq⟩
  · rw [if_neg c]
    exact ⟨q0, h1, h2⟩
theorem TabAt.new {H : Hp} (kvs : List (List Key × V)) {ns : List Str} {es : List Edge} (u' d' : Str) {q : Addr} (hq : H q = some (.tup ((nextsOf ns es u' d').map V.str))) : TabAt H (putK kvs [.inr u', .inr d'] (.ref q)) ns es u' d' := by
  refine ⟨q, ?_, hq⟩
  rw [valV_put, if_pos rfl]
theorem TabAt.mono {H H' : Hp} {kvs : List (List Key × V)} {ns : List Str} {es : List Edge} {u d : Str} (h : TabAt H kvs ns es u d) (k : ∀ a xs, H a = some (.tup xs) → H' a = some (.tup xs)) : TabAt H' kvs ns es u d := by
  obtain ⟨q0, h1, h2⟩ := h
  exact ⟨q0, h1, k _ _ h2⟩
theorem EdgesOk.ofLinks {ns : List Str} {ls : List Lk} (lk : LinksOk ns ls) : EdgesOk ns (edgesOf ls) := by
  refine ⟨edges_nd lk, edges_pos lk, edges_in lk, ?_⟩
  have := dict_len lk ls.length
  rw [List.take_length] at this
  unfold dictE at this
  rw [List.length_map] at this
  omega
section
variable {P : Program} {w : World} {K : PySem.W.Frag} {mg : Str → Option Value} {base : Heap}
def sp_tables_by : Sp := fun vs H Q _ => ∃ (R L : Addr) (es : List Edge) (ns : List Str), vs = [.ref R, .ref L] ∧ H R = some (.tup (ns.map V.str)) ∧ H L = some (.dT (dictE es)) ∧ EdgesOk ns es ∧ ns.length ≤ 100 ∧
  ∀ p kvs H', H p = none → Ex H H' → H' p = some (.dT kvs) → (∀ u ∈ ns, ∀ d ∈ ns, TabAt H' kvs ns es u d) → Q (.ref p) H'
theorem ok_tables_by (T : TX K mg) : FnOk P w K mg base CX0 2 T.tables_by.f T.tables_by.d ["routers", "lengths"] sp_tables_by := by
  have G1 : FnOk P w K mg base CX0 1 T.distances_to.f T.distances_to.d ["routers", "lengths", "d"] sp_distances_to := ok_distances_to T
  have G2 : FnOk P w K mg base CX0 1 T.nexts_by.f T.nexts_by.d ["routers", "lengths", "distances", "router"] sp_nexts_by := ok_nexts_by T
  refine T.tables_by.F.ok sc_tables_by (fun vs H Q E h => ?_) (fun cdv A outer s H vs Q E hr h => ?_)
  · obtain ⟨R, L, es, ns, rfl, _⟩ := h
    rfl
  · obtain ⟨R, L, es, ns, rfl, hR, hL, ok, n100, q⟩ := h
    have hu := hu_of hr
    refine ⟨_, pss_cons (ps_set (i := 2) sc_tables_by.nd rfl (.inl rfl) pe_dnewT) (pss_cons (ps_for PassesOwn.never rfl (pi_tup (pv 0)) (pg_name (i := 3) sc_tables_by.nd rfl (.inl rfl))
      (pss_cons (ps_set (i := 4) sc_tables_by.nd rfl (.inl rfl) (T.distances_to.call G1 hr (pa_cons (pv 0) (pa_cons (pv 1) (pa_cons (pv 3) pa_nil)))))
        (pss_one (ps_for PassesOwn.never rfl (pi_tup (pv 0)) (pg_name (i := 5) sc_tables_by.nd rfl (.inl rfl))
          (pss_one (ps_dput hu (pv 2) (pe_tup (pa_cons (pv 5) (pa_cons (pv 3) pa_nil))) (T.nexts_by.call G2 hr (pa_cons (pv 0) (pa_cons (pv 1) (pa_cons (pv 4) (pa_cons (pv 5) pa_nil))))) rfl))))))
      (pss_one (ps_ret (pv 2)))), ?_⟩
    intro p np
    have e0 : Ex H (upd H p (.dT [])) := Ex.new np
    have len : (ns.map V.str).length = ns.length := List.length_map _
    refine ⟨_, rfl, R, rfl, ⟨_, tyT (e0 _ _ hR)⟩, for_it (walk_tup (xs := ns.map V.str)) (fun i σ H' => Ex H H' ∧ ∃ kvs, H' p = some (.dT kvs) ∧ kvs.length ≤ i * ns.length ∧ (∀ d ∈ ns.take i, ∀ u ∈ ns, TabAt H' kvs ns es u d) ∧ ∃ a b c, σ = [some (.ref R), some (.ref L), some (.ref p), a, b, c]) ⟨e0, [], upd_same, Nat.zero_le _, fun d hd => (by rw [List.take_zero] at hd; cases hd), _, _, _, rfl⟩ (fun i σ H' _ pv => tyT (pv.1 _ _ hR)) (fun i x σ H1 H1' hi pv y => ?_) (fun σ H' pv => ?_)⟩
    · obtain ⟨e1, kvs, hp, le, tb, a, b, c, rfl⟩ := pv
      obtain ⟨rfl, hx⟩ := y
      rw [List.getElem?_map] at hx
      cases h1 : ns[i]? with
      | none => rw [h1] at hx; cases hx
      | some d =>
        rw [h1] at hx
        obtain rfl : V.str d = x := Option.some.inj hx
        have hi' : i < ns.length := by omega
        refine ⟨_, rfl, _, rfl, _, rfl, R, L, es, ns, d, rfl, e1 _ _ hR, e1 _ _ hL, ok, n100, fun D dk H2 nD e2 hD fo => ?_⟩
        have hp2 := e2 _ _ hp
        have pD : p ≠ D := ne_of_none hp nD
        refine ⟨_, rfl, R, rfl, ⟨_, tyT (e2 _ _ (e1 _ _ hR))⟩, for_it (walk_tup (xs := ns.map V.str)) (fun j σ H' => Ex H H' ∧ H' D = some (.dK dk) ∧ ∃ kvs, H' p = some (.dT kvs) ∧ kvs.length ≤ i * ns.length + j ∧ (∀ d ∈ ns.take i, ∀ u ∈ ns, TabAt H' kvs ns es u d) ∧ (∀ u ∈ ns.take j, TabAt H' kvs ns es u d) ∧ ∃ c, σ = [some (.ref R), some (.ref L), some (.ref p), some (.str d), some (.ref D), c]) ?_ (fun j σ H' _ pv => tyT (pv.1 _ _ hR)) (fun j x σ H3 H3' hj pv y => ?_) (fun σ H' pv => ?_)⟩
        · exact ⟨e1.trans e2, hD, kvs, hp2, by omega, fun d hd u hu => (tb d hd u hu).mono fun a xs z => e2 _ _ z, fun u hu => (by rw [List.take_zero] at hu; cases hu), _, rfl⟩
        · obtain ⟨e3, hD3, kvs3, hp3, le3, tb3, tc3, c3, rfl⟩ := pv
          obtain ⟨rfl, hx⟩ := y
          rw [List.getElem?_map] at hx
          cases h2 : ns[j]? with
          | none => rw [h2] at hx; cases hx
          | some u =>
            rw [h2] at hx
            obtain rfl : V.str u = x := Option.some.inj hx
            have hj' : j < ns.length := by omega
            have sz : kvs3.length < sizeLine := by
              have := Nat.mul_le_mul (Nat.le_of_lt hi') n100
              have h4 : ns.length * 100 ≤ 100 * 100 := Nat.mul_le_mul n100 (Nat.le_refl _)
              exact smallT (by omega)
            refine ⟨_, rfl, _, rfl, _, rfl, _, rfl, R, L, D, es, ns, dk, u, d, rfl, e3 _ _ hR, e3 _ _ hL, hD3, fo, ok, n100, fun q4 H4 e4 hq4 => ?_⟩
            refine ⟨_, rfl, _, rfl, _, rfl, sz2, fun k nk => ?_⟩
            have hp4 := e4 _ _ hp3
            have pk : p ≠ k := ne_of_none hp4 nk
            refine ⟨p, _, rfl, DPut.t (k := [.inr u, .inr d]) (by rw [upd_ne pk]; exact hp4) upd_same sz, ?_⟩
            have kt : ∀ a xs, H3' a = some (.tup xs) → (upd (upd H4 k (.tup [.str u, .str d])) p (.dT (putK kvs3 [.inr u, .inr d] (.ref q4)))) a = some (.tup xs) := fun a xs h => by
              have h4 := e4 _ _ h
              rw [upd_ne (ne_of h hp3 (by intro z; cases z)), upd_ne (ne_of_none h4 nk)]
              exact h4
            have hq5 : (upd (upd H4 k (.tup [.str u, .str d])) p (.dT (putK kvs3 [.inr u, .inr d] (.ref q4)))) q4 = some (.tup ((nextsOf ns es u d).map V.str)) := by
              rw [upd_ne (ne_of hq4 hp4 (by intro z; cases z)), upd_ne (ne_of_none hq4 nk)]
              exact hq4
            refine ⟨ex_upd ((e3.trans e4).trans (Ex.new nk)) np, ?_, _, upd_same, ?_, fun d' hd' u' hu' => ((tb3 d' hd' u' hu').mono kt).put u d hq5, fun u' hu' => ?_, _, rfl⟩
            · have hD4 := e4 _ _ hD3
              rw [upd_ne (Ne.symm pD), upd_ne (ne_of_none hD4 nk)]
              exact hD4
            · have := put_len kvs3 ([.inr u, .inr d] : List Key) (.ref q4)
              omega
            · rw [List.take_succ, h2] at hu'
              rcases List.mem_append.mp hu' with z | z
              · exact ((tc3 u' z).mono kt).put u d hq5
              · obtain rfl : u' = u := List.mem_singleton.mp z
                exact TabAt.new kvs3 u' d hq5
        · obtain ⟨e3, hD3, kvs3, hp3, le3, tb3, tc3, c3, rfl⟩ := pv
          refine ⟨e3, kvs3, hp3, ?_, fun d' hd' u' hu' => ?_, _, _, _, rfl⟩
          · have h2 : (i + 1) * ns.length = i * ns.length + ns.length := Nat.succ_mul _ _
            omega
          · rw [List.take_succ, h1] at hd'
            rcases List.mem_append.mp hd' with z | z
            · exact tb3 d' z u' hu'
            · obtain rfl : d' = d := List.mem_singleton.mp z
              rw [len, List.take_length] at tc3
              exact tc3 u' hu'
    · obtain ⟨e3, kvs3, hp3, le3, tb3, a, b, c3, rfl⟩ := pv
      rw [len, List.take_length] at tb3
      exact ⟨_, rfl, q p kvs3 H' np e3 hp3 fun u hu d hd => tb3 d hd u hu⟩
def sp_next_tables (C : Addr) : Sp := fun vs H Q _ => ∃ (n : Addr) (ns : List Str) (ls : List Lk), vs = [.ref n] ∧ NetAt C H n ns ls ∧
  ∀ p kvs H', H p = none → Ex H H' → H' p = some (.dT kvs) → (∀ u ∈ ns, ∀ d ∈ ns, TabAt H' kvs ns (edgesOf ls) u d) → Q (.ref p) H'
theorem ok_next_tables (T : TX K mg) : FnOk P w K mg base CX0 4 T.next_tables.f T.next_tables.d ["net"] (sp_next_tables T.CN) := by
  have G1 : FnOk P w K mg base CX0 2 T.tables_by.f T.tables_by.d ["routers", "lengths"] sp_tables_by := ok_tables_by T
  have G2 : FnOk P w K mg base CX0 3 T.lengths_of.f T.lengths_of.d ["net"] (sp_lengths_of T.CN) := ok_lengths_of T
  refine T.next_tables.F.ok sc_next_tables (fun vs H Q E h => ?_) (fun cdv A outer s H vs Q E hr h => ?_)
  · obtain ⟨n, ns, ls, rfl, _⟩ := h
    rfl
  · obtain ⟨n, ns, ls, rfl, hn, q⟩ := h
    obtain ⟨dx, R, L, qs, n1, n2, n3, n4⟩ := hn.ex
    refine ⟨_, pss_one (ps_ret (T.tables_by.call G1 (hr.mono (by decide)) (pa_cons (p_routers T (hr.mono (by decide)) (pv 0)) (pa_cons (T.lengths_of.call G2 hr (pa_cons (pv 0) pa_nil)) pa_nil)))), ?_⟩
    refine ⟨_, rfl, r_routers (t := tVar 0) (σ := []) (H := H) n1 ⟨_, rfl, n, ns, ls, rfl, hn, fun p1 H1 np1 e1 h1 => ?_⟩⟩
    have := hn.names.most
    exact ⟨R, p1, edgesOf ls, ns, rfl, e1 _ _ n2, h1, EdgesOk.ofLinks hn.links, by omega, fun p kvs H' np e h tb => q p kvs H' (Evl.fresh_back e1 np) (e1.trans e) h tb⟩
def sp_nexts (C : Addr) : Sp := fun vs H Q _ => ∃ (n : Addr) (ns : List Str) (ls : List Lk) (u d : Str), vs = [.ref n, .str u, .str d] ∧ NetAt C H n ns ls ∧ u ∈ ns ∧ d ∈ ns ∧
  ∀ p H', Ex H H' → H' p = some (.tup ((nextsOf ns (edgesOf ls) u d).map V.str)) → Q (.ref p) H'
theorem ok_nexts (T : TX K mg) : FnOk P w K mg base CX0 5 T.nexts.f T.nexts.d ["net", "a", "d"] (sp_nexts T.CN) := by
  have G1 : FnOk P w K mg base CX0 3 T.check_routers.f T.check_routers.d ["net", "values"] (sp_check_routers T.CN) := ok_check_routers T
  have G2 : FnOk P w K mg base CX0 4 T.next_tables.f T.next_tables.d ["net"] (sp_next_tables T.CN) := ok_next_tables T
  refine T.nexts.F.ok sc_nexts (fun vs H Q E h => ?_) (fun cdv A outer s H vs Q E hr h => ?_)
  · obtain ⟨n, ns, ls, u, d, rfl, _⟩ := h
    rfl
  · obtain ⟨n, ns, ls, u, d, rfl, hn, hu', hd', q⟩ := h
    have hu := hu_of hr
    refine ⟨_, pss_cons (ps_expr (T.check_routers.call G1 (hr.mono (by decide)) (pa_cons (pv 0) (pa_cons (pe_tup (pa_cons (pv 1) (pa_cons (pv 2) pa_nil))) pa_nil))))
      (pss_one (ps_ret (pe_dget hu (T.next_tables.call G2 hr (pa_cons (pv 0) pa_nil)) (pe_tup (pa_cons (pv 1) (pa_cons (pv 2) pa_nil))) (fun _ _ => rfl)))), ?_⟩
    refine ⟨_, rfl, _, rfl, _, rfl, sz2, fun k nk => ?_⟩
    have e1 : Ex H (upd H k (.tup [.str u, .str d])) := Ex.new nk
    refine ⟨n, k, ns, [u, d], ls, rfl, hn.ex' e1, upd_same, fun x hx => ?_, ?_⟩
    · rcases List.mem_cons.mp hx with z | z
      · rw [z]; exact hu'
      · rw [List.mem_singleton.mp z]; exact hd'
    · refine ⟨_, rfl, n, ns, ls, rfl, hn.ex' e1, fun p kvs H2 np e2 hp tb => ?_⟩
      refine ⟨_, rfl, _, rfl, sz2, fun k2 nk2 => ?_⟩
      obtain ⟨q3, h3, h4⟩ := tb u hu' d hd'
      have e3 : Ex H2 (upd H2 k2 (.tup [.str u, .str d])) := Ex.new nk2
      refine ⟨p, _, rfl, ?_, q q3 _ ((e1.trans e2).trans e3) (e3 _ _ h4)⟩
      have := DGet.t (k := [.inr u, .inr d]) (e3 _ _ hp) (upd_same : (upd H2 k2 (.tup [.str u, .str d])) k2 = _)
      rw [h3] at this
      exact this
end
end QT
namespace QT
open PySem PySem.Spec PyProof.Rows L2 QS QR
open Evl (Ex)
/-! ### the test of two pairs -/
def samePair (a b : Str) (l : Lk) : Bool := decide (l.1 = a ∧ l.2.1 = b)
theorem eqv_pr (l : Lk) (a b : Str) : PyData.eqv (prT l) (.tuple [.str a, .str b]) = samePair a b l := by
  have h : PyData.eqv (prT l) (.tuple [.str a, .str b]) = (l.1 == a && l.2.1 == b) := by simp [PyData.eqv, PyData.eqvAll]
  rw [h]
  unfold samePair
  rw [Bool.eq_iff_iff, Bool.and_eq_true, beq_iff_eq, beq_iff_eq, decide_eq_true_eq]
def OkP (a b : Str) : Prop := PyData.strOk a = true ∧ PyData.strOk b = true
theorem shP {a b : Str} (h : OkP a b) : SeqAt.shaped (.tuple [.str a, .str b]) = true := by simp [SeqAt.shaped, PyData.canLay0, PyData.canLayAll0, PyData.depth, PyData.depthAll, h.1, h.2]
theorem strOk_name {x : Str} (h : NameOk x) : PyData.strOk x = true := by
  unfold PyData.strOk
  rw [← Array.all_toList, List.all_eq_true]
  intro c hc
  have := h.2.2 c hc
  exact decide_eq_true (by omega)
theorem NamesOk.okP {ns : List Str} (h : NamesOk ns) {a b : Str} (ha : a ∈ ns) (hb : b ∈ ns) : OkP a b := ⟨strOk_name (h.each a ha), strOk_name (h.each b hb)⟩
theorem LinksOk.okP {ns : List Str} {ls : List Lk} (h : LinksOk ns ls) (hn : NamesOk ns) {l : Lk} (hl : l ∈ ls) : OkP l.1 l.2.1 := hn.okP (h.each l hl).1 (h.each l hl).2.1
def tNeP (K : PySem.W.Frag) (i j k : Nat) : TT := tTest (tOp (rNeD K) (tSl (rSlT K) (tVar i) tNoPart (tPart (tC (.int 2)))) (tTup (tCons (tVar j) (tCons (tVar k) tNil))))
def tEqP (K : PySem.W.Frag) (i j k : Nat) : TT := tTest (tOp (rEqD K) (tSl (rSlT K) (tVar i) tNoPart (tPart (tC (.int 2)))) (tTup (tCons (tVar j) (tCons (tVar k) tNil))))
theorem t_ne {K : PySem.W.Frag} {σ : L2.St} {H : Hp} {i j k : Nat} {q : Addr} {l : Lk} {a b : Str} {Q : Bool → Hp → Prop} (hi : σ[i]? = some (some (.ref q))) (hj : σ[j]? = some (some (.str a))) (hk : σ[k]? = some (some (.str b))) (hq : LinkAt H q l) (ol : OkP l.1 l.2.1) (oa : OkP a b) (rt : ∀ H', Ex H H' → Q (!samePair a b l) H') : tNeP K i j k σ H Q := by
  refine ⟨_, hi, 2, rfl, q, _, rfl, tyT hq, nw2 l, fun c nc => ?_⟩
  rw [cut2]
  have e1 : Ex H (upd H c (.tup [.str l.1, .str l.2.1])) := Ex.new nc
  refine ⟨_, hj, _, hk, sz2, fun c2 nc2 => ?_⟩
  have e2 := ex_upd (o := .tup [.str a, .str b]) e1 (Evl.fresh_back e1 nc2)
  refine ⟨prT l, .tuple [.str a, .str b], .tup (tyT (by rw [upd_ne (ne_of_none upd_same nc2)]; exact upd_same)) (.cons (.str _) (.cons (.str _) .nil)), .tup (tyT upd_same) (.cons (.str _) (.cons (.str _) .nil)), shP ol, shP oa, _, rfl, ?_⟩
  rw [eqv_pr]
  exact rt _ e2
theorem t_eq {K : PySem.W.Frag} {σ : L2.St} {H : Hp} {i j k : Nat} {q : Addr} {l : Lk} {a b : Str} {Q : Bool → Hp → Prop} (hi : σ[i]? = some (some (.ref q))) (hj : σ[j]? = some (some (.str a))) (hk : σ[k]? = some (some (.str b))) (hq : LinkAt H q l) (ol : OkP l.1 l.2.1) (oa : OkP a b) (rt : ∀ H', Ex H H' → Q (samePair a b l) H') : tEqP K i j k σ H Q := by
  refine ⟨_, hi, 2, rfl, q, _, rfl, tyT hq, nw2 l, fun c nc => ?_⟩
  rw [cut2]
  have e1 : Ex H (upd H c (.tup [.str l.1, .str l.2.1])) := Ex.new nc
  refine ⟨_, hj, _, hk, sz2, fun c2 nc2 => ?_⟩
  have e2 := ex_upd (o := .tup [.str a, .str b]) e1 (Evl.fresh_back e1 nc2)
  refine ⟨prT l, .tuple [.str a, .str b], .tup (tyT (by rw [upd_ne (ne_of_none upd_same nc2)]; exact upd_same)) (.cons (.str _) (.cons (.str _) .nil)), .tup (tyT upd_same) (.cons (.str _) (.cons (.str _) .nil)), shP ol, shP oa, _, rfl, ?_⟩
  rw [eqv_pr]
  exact rt _ e2
/-- the kept of a comprehension over links -/
theorem kept_paired {R : Addr → Lk → Prop} {qs : List Addr} {ls : List Lk} (h : Paired R qs ls) (F : Lk → Bool) : ∃ qs' : List Addr, Evl.given qs.length (fun i => F (ls.getD i lk0)) (fun i => V.ref (qs.getD i 0)) = qs'.map V.ref ∧ Paired R qs' (ls.filter F) := by
  have go : ∀ i, i ≤ qs.length → ∃ qs' : List Addr, Evl.given i (fun i => F (ls.getD i lk0)) (fun i => V.ref (qs.getD i 0)) = qs'.map V.ref ∧ Paired R qs' ((ls.take i).filter F) := by
    intro i
    induction i with
    | zero => exact fun _ => ⟨[], rfl, .nil⟩
    | succ i ih =>
      intro hi
      obtain ⟨qs', e1, e2⟩ := ih (by omega)
      obtain ⟨l, hl, hr⟩ := paired_get h i (List.getElem?_eq_getElem (show i < qs.length by omega))
      have gl : ls.getD i lk0 = l := getD_of hl
      have gq : qs.getD i 0 = qs[i] := getD_of (List.getElem?_eq_getElem (show i < qs.length by omega))
      have tk : ls.take (i + 1) = ls.take i ++ [l] := by
        rw [List.take_succ, hl]
        rfl
      rw [tk, List.filter_append]
      cases hf : F l with
      | true =>
        refine ⟨qs' ++ [qs[i]], ?_, ?_⟩
        · rw [Evl.given_yes (by rw [gl]; exact hf), e1, List.map_append, gq]
          rfl
        · rw [List.filter_cons, if_pos hf]
          exact paired_snoc e2 hr
      | false =>
        refine ⟨qs', ?_, ?_⟩
        · rw [Evl.given_no (by rw [gl]; exact hf), e1]
        · rw [List.filter_cons, if_neg (by rw [hf]; exact Bool.false_ne_true)]
          simpa using e2
  obtain ⟨qs', e1, e2⟩ := go qs.length (Nat.le_refl _)
  rw [paired_len h, List.take_length] at e2
  exact ⟨qs', e1, e2⟩
section
variable {P : Program} {w : World} {K : PySem.W.Frag} {mg : Str → Option Value} {base : Heap}
/-- the reading of [link for link in links if link[:2] != (a, b)] -/
theorem r_kept {J : It} {D L : Addr} {qs : List Addr} {ls : List Lk} {σ : L2.St} {i j k : Nat} {vs : List Nat} {a b : Str} {H1 : Hp} {Qd : Hp → Prop} (hJ : J = Itt K L) (hL : H1 L = some (.tup (qs.map V.ref))) (hq : LinksAt H1 qs ls) (few : ls.length ≤ 1000) (ok : ∀ l ∈ ls, OkP l.1 l.2.1) (oa : OkP a b) (hD : H1 D = none)
    (hi : ∀ q : Addr, ((wipe σ vs).set i (some (.ref q)))[i]? = some (some (.ref q))) (hj : ∀ q : Addr, ((wipe σ vs).set i (some (.ref q)))[j]? = some (some (.str a))) (hk : ∀ q : Addr, ((wipe σ vs).set i (some (.ref q)))[k]? = some (some (.str b))) (hw : ∀ q : Addr, wipe ((wipe σ vs).set i (some (.ref q))) vs = wipe σ vs)
    (hd : ∀ H' qs', Ex H1 H' → H' D = some (.lst (qs'.map V.ref)) → LinksAt H' qs' (ls.filter fun l => !samePair a b l) → Qd H') :
    ∃ W : Nat → Nat → Hp → Prop, (∃ m, W 0 m (upd H1 D (.lst []))) ∧ ∀ i' m H, W i' m H →
      (J.stop i' H ∧ Qd H) ∨ (J.go i' H ∧ ∃ Nx : Hp → Prop, (∀ H', Nx H' → ∃ m', m' < m ∧ W (i' + 1) m' H') ∧ ∀ x H', J.yld i' H x H' → gName i x (wipe σ vs) H' fun σ2 H2 => wipe σ2 vs = wipe σ vs ∧ tNeP K i j k σ2 H2 fun b H3 =>
        if b = true then tVar i σ2 H3 fun y H4 => ∃ acc, H4 D = some (.lst acc) ∧ acc.length < sizeLine ∧ Nx (upd H4 D (.lst (acc ++ [y]))) else Nx H3) := by
  subst hJ
  have lq : qs.length = ls.length := paired_len hq
  refine lcF (walk_tup (xs := qs.map V.ref)) (by rw [List.length_map]; omega) (fun i => (fun l => !samePair a b l) (ls.getD i lk0)) (fun i => V.ref (qs.getD i 0)) hD (fun H' e => tyT (e _ _ hL)) (fun i' x H2 H2' hi' e y RT RF rt rf => ?_) (fun H' e hD' => ?_)
  · obtain ⟨rfl, hx⟩ := y
    obtain ⟨q, l, rfl, h1, h2, h3⟩ := links_get hq hx
    rw [getD_of h1, getD_of h3] at rt
    rw [getD_of h1] at rf
    refine ⟨hw q, t_ne (hi q) (hj q) (hk q) (e _ _ h2) (ok l (List.mem_of_getElem? h1)) oa fun H3 e3 => ?_⟩
    show if (!samePair a b l) = true then _ else _
    cases hc : (!samePair a b l) with
    | true => exact iteT ⟨_, hi q, rt hc _ e3⟩
    | false => exact iteF (rf hc _ e3)
  · obtain ⟨qs', e1, e2⟩ := kept_paired (linksAt_mono (fun a xs z => e _ _ z) hq) fun l => !samePair a b l
    rw [List.length_map, e1] at hD'
    exact hd H' qs' e hD' e2
def sp_net_without (C : Addr) : Sp := fun vs H Q _ => ∃ (n : Addr) (ns : List Str) (ls : List Lk) (l : Lk), vs = [.ref n, .str l.1, .str l.2.1] ∧ NetAt C H n ns ls ∧ l ∈ ls ∧
  ∀ m H', Ex H H' → NetAt C H' m ns (ls.filter fun k => !samePair l.1 l.2.1 k) → Q (.ref m) H'
theorem ok_net_without (T : TX K mg) : FnOk P w K mg base CX0 7 T.net_without.f T.net_without.d ["self", "a", "b"] (sp_net_without T.CN) := by
  have G1 : FnOk P w K mg base CX0 3 T.link_of.f T.link_of.d ["net", "a", "b"] (sp_link_of T.CN) := ok_link_of T
  refine T.net_without.F.ok sc_net_without (fun vs H Q E h => ?_) (fun cdv A outer s H vs Q E hr h => ?_)
  · obtain ⟨n, ns, ls, l, rfl, _⟩ := h
    rfl
  · obtain ⟨n, ns, ls, l, rfl, hn, hl, q⟩ := h
    obtain ⟨dx, R, L, qs, n1, n2, n3, n4⟩ := hn.ex
    have hu := hr.units
    refine ⟨_, pss_cons (ps_expr (T.link_of.call G1 (hr.mono (by decide)) (pa_cons (pv 0) (pa_cons (pv 1) (pa_cons (pv 2) pa_nil)))))
      (pss_one (ps_ret (p_net T hr (pa_cons (pe_fld (pv 0) rfl) (pa_cons (pe_callTy call_tup (by rfl) T.n_tuple boot_tuple' (pa_cons (pe_lc (own := [("link", 3)]) (g := gName 3) (tt := tNeP K 3 1 2) (te := tVar 3) rfl sc_net_without.nd (pi_tup (pe_fld (pv 0) rfl)) (blkOk_by (own := [("link", 3)]) (N := N_net_without) (sc := defScope s_net_without) (by decide +kernel))
          (fun _ _ _ _ _ => pg_name (i := 3) sc_net_without.nd rfl (.inl rfl)) (fun _ _ _ _ _ => pts_one (pt_cmpR (op_neD (by exact hu)) (pe_slice sl_tup (pv 3) po_none (po_some pe_int)) (pe_tup (pa_cons (pv 1) (pa_cons (pv 2) pa_nil))) (nomark _))) (fun _ _ _ _ _ => pv 3)) pa_nil)) pa_nil))))), ?_⟩
    refine ⟨_, rfl, _, rfl, _, rfl, n, ns, ls, l, rfl, hn, hl, fun H1 qa e1 _ => ?_⟩
    have g1 : H1 n = some (.ins T.CN dx (fsN R L)) := e1 _ _ n1
    have g2 : H1 R = some (.tup (ns.map V.str)) := e1 _ _ n2
    have g3 : H1 L = some (.tup (qs.map V.ref)) := e1 _ _ n3
    have most := hn.links.most
    refine ⟨_, rfl, n, T.CN, dx, fsN R L, .ref R, rfl, g1, T.clN, T.nR, rfl, _, rfl, n, T.CN, dx, fsN R L, .ref L, rfl, g1, T.clN, T.nL, rfl, L, rfl, ⟨_, tyT g3⟩, fun D nD => r_kept rfl g3 (linksAt_mono (fun a xs z => e1 _ _ z) n4) (by omega) (fun l hl => hn.links.okP hn.names hl) (hn.links.okP hn.names hl) nD (fun _ => rfl) (fun _ => rfl) (fun _ => rfl) (fun _ => rfl) (fun H2 qs' e2 hD hq' => ?_)⟩
    refine ⟨D, _, rfl, .inl ⟨tyL hD, fun p np => ?_⟩⟩
    have e3 : Ex H2 (upd H2 p (.tup (qs'.map V.ref))) := Ex.new np
    refine r_net (e3 _ _ (e2 _ _ g2)) upd_same (linksAt_mono (fun a xs z => e3 _ _ z) hq') hn.names (hn.links.sub List.filter_sublist) fun m H3 e4 hm => q m H3 (((e1.trans e2).trans e3).trans e4) hm
end
end QT
namespace QT
open PySem PySem.Spec PyProof.Rows L2 QS QR
open Evl (Ex)
theorem keep_apart {ns : List Str} {ls : List Lk} (lk : LinksOk ns ls) (m : Lk) : Apart ((ls.filter fun k => !samePair m.1 m.2.1 k) ++ [m]) := by
  have ap : Apart ls := lk.asc.imp fun {a b} h => plt_irrefl h
  refine List.pairwise_append.mpr ⟨ap.sublist List.filter_sublist, List.pairwise_singleton _ _, fun x hx y hy => ?_⟩
  rw [List.mem_singleton.mp hy]
  have := (List.mem_filter.mp hx).2
  unfold samePair at this
  rw [Bool.not_eq_true', decide_eq_false_iff_not] at this
  exact this
theorem keep_few {ls : List Lk} {l : Lk} (hl : l ∈ ls) : (ls.filter fun k => !samePair l.1 l.2.1 k).length < ls.length := by
  refine List.length_filter_lt_length_iff_exists.mpr ⟨l, hl, ?_⟩
  unfold samePair
  rw [decide_eq_true ⟨rfl, rfl⟩]
  exact Bool.false_ne_true
theorem put_ok {ns : List Str} {ls ls' : List Lk} (lk : LinksOk ns ls) {m : Lk} (hm : LkOk ns m) (few : (ls.filter fun k => !samePair m.1 m.2.1 k).length ≤ 15) (p : ls'.Perm ((ls.filter fun k => !samePair m.1 m.2.1 k) ++ [m])) (s : ls'.Pairwise plt) : LinksOk ns ls' := by
  refine ⟨?_, fun k hk => ?_, s⟩
  · rw [p.length_eq, List.length_append]
    show _ + 1 ≤ 16
    omega
  · rcases List.mem_append.mp (p.mem_iff.mp hk) with z | z
    · exact lk.each k (List.mem_filter.mp z).1
    · rw [List.mem_singleton.mp z]
      exact hm
section
variable {P : Program} {w : World} {K : PySem.W.Frag} {mg : Str → Option Value} {base : Heap}
def tPut (K : PySem.W.Frag) (P : Program) (w : World) (iK iA iB iT iS : Nat) : TE := tCB (rTup K) (tCons (tCB (rSortedUs K P w) (tCons (tCB (rSetUs K P w) (tCons (tOp rCat (tVar iK) (tLst (tCons (tTup (tCons (tVar iA) (tCons (tVar iB) (tCons (tVar iT) (tCons (tVar iS) tNil))))) tNil))) tNil)) tNil)) tNil)
theorem t_put {σ : L2.St} {H : Hp} {Q : VK} {iK iA iB iT iS : Nat} {D : Addr} {qs : List Addr} {ls : List Lk} {m : Lk} (hK : σ[iK]? = some (some (.ref D))) (hA : σ[iA]? = some (some (.str m.1))) (hB : σ[iB]? = some (some (.str m.2.1))) (hT : σ[iT]? = some (some (.int m.2.2.1))) (hS : σ[iS]? = some (some (.int m.2.2.2)))
    (hD : H D = some (.lst (qs.map V.ref))) (hq : LinksAt H qs ls) (ap : Apart (ls ++ [m])) (few : ls.length < 60)
    (q : ∀ H' T qs' ls', Ex H H' → H' T = some (.tup (qs'.map V.ref)) → LinksAt H' qs' ls' → ls'.Perm (ls ++ [m]) → ls'.Pairwise plt → Q (.ref T) H') : tPut K P w iK iA iB iT iS σ H Q := by
  refine ⟨_, hK, _, hA, _, hB, _, hT, _, hS, sz4, fun c nc => ⟨sz1, fun c2 nc2 => ?_⟩⟩
  have e1 : Ex H (upd H c (.tup [.str m.1, .str m.2.1, .int m.2.2.1, .int m.2.2.2])) := Ex.new nc
  have e2 := ex_upd (o := .lst [.ref c]) e1 (Evl.fresh_back e1 nc2)
  have lq : qs.length = ls.length := paired_len hq
  refine ⟨D, c2, _, _, rfl, rfl, e2 _ _ hD, upd_same, ?_, fun p np => ?_⟩
  · rw [List.length_map]
    show _ + 1 ≤ sizeLine
    exact small (by omega)
  · have e3 := ex_upd (o := .lst (qs.map V.ref ++ [.ref c])) e2 (Evl.fresh_back e2 np)
    have hc : (upd (upd (upd H c (.tup [.str m.1, .str m.2.1, .int m.2.2.1, .int m.2.2.2])) c2 (.lst [.ref c])) p (.lst (qs.map V.ref ++ [.ref c]))) c = some (.tup (lkV m)) := by
      have cc2 : c ≠ c2 := ne_of_none (upd_same : (upd H c (.tup [.str m.1, .str m.2.1, .int m.2.2.1, .int m.2.2.2])) c = _) nc2
      have cp : c ≠ p := fun z => by
        rw [← z, upd_ne cc2, upd_same] at np
        cases np
      rw [upd_ne cp, upd_ne cc2, upd_same]
      rfl
    refine r_tss (l := p) (qs := qs ++ [c]) (ls := ls ++ [m]) (by rw [upd_same, List.map_append]; rfl) (paired_snoc (linksAt_mono (fun a xs z => e3 _ _ z) hq) hc) ap (by rw [List.length_append]; show _ + 1 < 64; omega) fun H' T qs' ls' e h1 h2 h3 h4 => q H' T qs' ls' (e3.trans e) h1 h2 h3 h4
def sp_net_with (C : Addr) : Sp := fun vs H Q _ => ∃ (n : Addr) (ns : List Str) (ls : List Lk) (m : Lk), vs = [.ref n, .str m.1, .str m.2.1, .int m.2.2.1, .int m.2.2.2] ∧ NetAt C H n ns ls ∧ LkOk ns m ∧ (ls.filter fun k => !samePair m.1 m.2.1 k).length ≤ 15 ∧
  ∀ n' ls' H', Ex H H' → ls'.Perm ((ls.filter fun k => !samePair m.1 m.2.1 k) ++ [m]) → NetAt C H' n' ns ls' → Q (.ref n') H'
theorem ok_net_with (T : TX K mg) : FnOk P w K mg base CX0 7 T.net_with_link.f T.net_with_link.d ["self", "a", "b", "there", "back"] (sp_net_with T.CN) := by
  have G1 : FnOk P w K mg base CX0 3 T.check_routers.f T.check_routers.d ["net", "values"] (sp_check_routers T.CN) := ok_check_routers T
  have G2 : FnOk P w K mg base CX0 2 T.is_from.f T.is_from.d ["value", "least"] sp_is_from := ok_is_from T
  refine T.net_with_link.F.ok sc_net_with_link (fun vs H Q E h => ?_) (fun cdv A outer s H vs Q E hr h => ?_)
  · obtain ⟨n, ns, ls, m, rfl, _⟩ := h
    rfl
  · obtain ⟨n, ns, ls, m, rfl, hn, hm, few, q⟩ := h
    obtain ⟨dx, R, L, qs, n1, n2, n3, n4⟩ := hn.ex
    have hu := hr.units
    obtain ⟨uM, gM, rM⟩ := T.c_MOST_LINKS
    refine ⟨_, pss_cons (ps_expr (T.check_routers.call G1 (hr.mono (by decide)) (pa_cons (pv 0) (pa_cons (pe_tup (pa_cons (pv 1) (pa_cons (pv 2) pa_nil))) pa_nil))))
      (pss_cons (ps_if (pt_not (pt_cmpR op_lt_str (pv 1) (pv 2) (nomark _))) pss_never pss_nil)
      (pss_cons (ps_for PassesOwn.never rfl (pi_tup (pe_tup (pa_cons (pv 3) (pa_cons (pv 4) pa_nil)))) (pg_name (i := 5) sc_net_with_link.nd rfl (.inl rfl))
        (pss_one (ps_if (pt_not (pt_val (T.is_from.call G2 (hr.mono (by decide)) (pa_cons (pv 5) (pa_cons pe_int pa_nil))))) pss_never pss_nil)))
      (pss_cons (ps_setLc (i := 6) (own := [("link", 7)]) (g := gName 7) (tt := tNeP K 7 1 2) (te := tVar 7) rfl sc_net_with_link.nd rfl rfl rfl (pi_tup (pe_fld (pv 0) rfl)) (blkOk_by (own := [("link", 7)]) (N := N_net_with_link) (sc := defScope s_net_with_link) (by decide +kernel))
          (fun _ _ _ _ _ => pg_name (i := 7) sc_net_with_link.nd rfl (.inl rfl)) (fun _ _ _ _ _ => pts_one (pt_cmpR (op_neD (by exact hu)) (pe_slice sl_tup (pv 7) po_none (po_some pe_int)) (pe_tup (pa_cons (pv 1) (pa_cons (pv 2) pa_nil))) (nomark _))) (fun _ _ _ _ _ => pv 7))
      (pss_cons (ps_if (pt_cmpR op_eq (pe_callB call_len_seq (by rfl) T.n_len PySem.boot_len (pa_cons (pv 6) pa_nil)) (pe_glob (by rfl) gM rM) (nomark _)) pss_never pss_nil)
      (pss_one (ps_ret (p_net T hr (pa_cons (pe_fld (pv 0) rfl) (pa_cons
        (pe_callTy call_tup (by rfl) T.n_tuple boot_tuple' (pa_cons (pe_callB (cr_sortedUs rfl) (by rfl) T.n_sorted boot_sorted' (pa_cons (pe_callTy (cr_setUs rfl (by exact hu)) (by rfl) T.n_set boot_set' (pa_cons
          (pe_op op_cat (pv 6) (pe_lst (pa_cons (pe_tup (pa_cons (pv 1) (pa_cons (pv 2) (pa_cons (pv 3) (pa_cons (pv 4) pa_nil))))) pa_nil))) pa_nil)) pa_nil)) pa_nil)) pa_nil))))))))), ?_⟩
    have lq : qs.length = ls.length := paired_len n4
    have most := hn.links.most
    refine ⟨_, rfl, _, rfl, _, rfl, sz2, fun c nc => ?_⟩
    have e1 : Ex H (upd H c (.tup [.str m.1, .str m.2.1])) := Ex.new nc
    refine ⟨n, c, ns, [m.1, m.2.1], ls, rfl, hn.ex' e1, upd_same, fun x hx => ?_, ?_⟩
    · rcases List.mem_cons.mp hx with z | z
      · rw [z]; exact hm.1
      · rw [List.mem_singleton.mp z]; exact hm.2.1
    refine ⟨_, rfl, _, rfl, m.1, m.2.1, rfl, rfl, true, congrArg V.bl (decide_eq_true hm.2.2.1), iteF ?_⟩
    refine ⟨_, rfl, _, rfl, sz2, fun c2 nc2 => ⟨c2, rfl, ⟨_, tyT upd_same⟩, ?_⟩⟩
    have e2 := ex_upd (o := .tup [.int m.2.2.1, .int m.2.2.2]) e1 (Evl.fresh_back e1 nc2)
    refine for_it (walk_tup (xs := [V.int m.2.2.1, .int m.2.2.2])) (fun i σ H' => H' = upd (upd H c (.tup [.str m.1, .str m.2.1])) c2 (.tup [.int m.2.2.1, .int m.2.2.2]) ∧ ∃ y, σ = [some (.ref n), some (.str m.1), some (.str m.2.1), some (.int m.2.2.1), some (.int m.2.2.2), y, none, none]) ⟨rfl, _, rfl⟩ (fun i σ H' _ pv => by rw [pv.1]; exact tyT upd_same) (fun i x σ H1 H1' hi pv y => ?_) (fun σ H1 pv => ?_)
    · obtain ⟨rfl, z, rfl⟩ := pv
      obtain ⟨rfl, hx⟩ := y
      have hx' : ∃ t, x = .int t ∧ 1 ≤ t := by
        match i, hx with
        | 0, hx => exact ⟨_, (Option.some.inj hx).symm, hm.2.2.2.1⟩
        | 1, hx => exact ⟨_, (Option.some.inj hx).symm, hm.2.2.2.2⟩
      obtain ⟨t, rfl, ht⟩ := hx'
      refine ⟨_, rfl, t, 1, rfl, ?_⟩
      rw [decide_eq_true ht]
      exact ⟨true, rfl, iteF ⟨rfl, _, rfl⟩⟩
    · obtain ⟨rfl, z, rfl⟩ := pv
      refine ⟨_, rfl, n, T.CN, dx, fsN R L, .ref L, rfl, e2 _ _ n1, T.clN, T.nL, rfl, L, rfl, ⟨_, tyT (e2 _ _ n3)⟩, fun D nD => r_kept rfl (e2 _ _ n3) (linksAt_mono (fun a xs z => e2 _ _ z) n4) (by omega) (fun l hl => hn.links.okP hn.names hl) (hn.names.okP hm.1 hm.2.1) nD (fun _ => rfl) (fun _ => rfl) (fun _ => rfl) (fun _ => rfl) (fun H2 qs' e3 hD hq' => ?_)⟩
      have lk' : qs'.length = (ls.filter fun k => !samePair m.1 m.2.1 k).length := paired_len hq'
      refine ⟨_, rfl, D, _, rfl, .inl (tyL hD), rfl, false, congrArg V.bl (decide_eq_false fun z => ?_), iteF ?_⟩
      · have := V.int.inj z
        rw [List.length_map] at this
        omega
      · have e4 := e2.trans e3
        refine ⟨_, rfl, n, T.CN, dx, fsN R L, .ref R, rfl, e4 _ _ n1, T.clN, T.nR, rfl, t_put (m := m) rfl rfl rfl rfl rfl hD hq' (keep_apart hn.links m) (by omega) fun H3 T3 qs3 ls3 e5 h1 h2 h3 h4 => ?_⟩
        exact r_net (e5 _ _ (e4 _ _ n2)) h1 h2 hn.names (put_ok hn.links hm few h3 h4) fun n' H4 e6 hn' => q n' ls3 H4 ((e4.trans e5).trans e6) h3 hn'
end
end QT
namespace QT
open PySem PySem.Spec PyProof.Rows L2 QS QR
open Evl (Ex)
section
variable {P : Program} {w : World} {K : PySem.W.Frag} {mg : Str → Option Value} {base : Heap}
def sp_shifted (C : Addr) : Sp := fun vs H Q _ => ∃ (n : Addr) (ns : List Str) (ls : List Lk) (l : Lk) (t : Int), vs = [.ref n, .str l.1, .str l.2.1, .int t] ∧ NetAt C H n ns ls ∧ l ∈ ls ∧ 1 ≤ l.2.2.1 + t ∧ 1 ≤ l.2.2.2 + t ∧
  ∀ n' ls' H', Ex H H' → ls'.Perm ((ls.filter fun k => !samePair l.1 l.2.1 k) ++ [(l.1, l.2.1, l.2.2.1 + t, l.2.2.2 + t)]) → NetAt C H' n' ns ls' → Q (.ref n') H'
theorem ok_shifted (T : TX K mg) : FnOk P w K mg base CX0 8 T.shifted.f T.shifted.d ["net", "a", "b", "t"] (sp_shifted T.CN) := by
  have G1 : FnOk P w K mg base CX0 3 T.link_of.f T.link_of.d ["net", "a", "b"] (sp_link_of T.CN) := ok_link_of T
  have G2 : FnOk P w K mg base CX0 1 T.is_integer.f T.is_integer.d ["value"] sp_is_integer := ok_is_integer T
  have G3 : FnOk P w K mg base CX0 7 T.net_with_link.f T.net_with_link.d ["self", "a", "b", "there", "back"] (sp_net_with T.CN) := ok_net_with T
  have G4 : FnOk P w K mg base CX0 7 T.net_without.f T.net_without.d ["self", "a", "b"] (sp_net_without T.CN) := ok_net_without T
  refine T.shifted.F.ok sc_shifted (fun vs H Q E h => ?_) (fun cdv A outer s H vs Q E hr h => ?_)
  · obtain ⟨n, ns, ls, l, t, rfl, _⟩ := h
    rfl
  · obtain ⟨n, ns, ls, l, t, rfl, hn, hl, t1, t2, q⟩ := h
    refine ⟨_, pss_cons (ps_asg (pe_slice sl_tup (T.link_of.call G1 (hr.mono (by decide)) (pa_cons (pv 0) (pa_cons (pv 1) (pa_cons (pv 2) pa_nil)))) (po_some pe_int) po_none) (pg_tup rfl (pgs_cons (pg_name (i := 4) sc_shifted.nd rfl (.inl rfl)) (pgs_cons (pg_name (i := 5) sc_shifted.nd rfl (.inl rfl)) pgs_nil))))
      (pss_cons (ps_if (pt_cmpR op_isN (pv 3) pe_non (nomark _)) (pss_one (ps_ret (pe_meth (pv 0) T.clN T.mO G4 hr T.net_without.b .nil pass0 (pa_cons (pv 1) (pa_cons (pv 2) pa_nil))))) pss_nil)
      (pss_cons (ps_if (PW.pt (pw_or (pt_not (pt_val (T.is_integer.call G2 (hr.mono (by decide)) (pa_cons (pv 3) pa_nil)))) (pw_or (pt_cmpR op_lt (pe_op op_add (pv 4) (pv 3)) pe_int (nomark _)) (pw_or1 (pt_cmpR op_lt (pe_op op_add (pv 5) (pv 3)) pe_int (nomark _)))))) pss_never pss_nil)
      (pss_one (ps_ret (pe_meth (pv 0) T.clN T.mW G3 hr T.net_with_link.b .nil pass0 (pa_cons (pv 1) (pa_cons (pv 2) (pa_cons (pe_op op_add (pv 4) (pv 3)) (pa_cons (pe_op op_add (pv 5) (pv 3)) pa_nil))))))))), ?_⟩
    refine ⟨_, rfl, _, rfl, _, rfl, n, ns, ls, l, rfl, hn, hl, fun H1 qa e1 hqa => ⟨2, rfl, qa, _, rfl, tyT hqa, nw2' l, fun c nc => ?_⟩⟩
    rw [cut2']
    have e2 := e1.trans (Ex.new (o := .tup [.int l.2.2.1, .int l.2.2.2]) nc)
    refine ⟨c, _, rfl, tyT upd_same, rfl, _, _, rfl, _, _, rfl, rfl, ?_⟩
    refine ⟨_, rfl, rfl, false, congrArg V.bl (decide_eq_false fun z => by cases z), iteF ?_⟩
    refine ⟨_, rfl, t, rfl, true, rfl, iteF ⟨_, rfl, _, rfl, _, _, rfl, rfl, _, _, rfl, rfl, false, congrArg V.bl (decide_eq_false (by omega)), iteF ⟨_, rfl, _, rfl, _, _, rfl, rfl, _, _, rfl, rfl, false, congrArg V.bl (decide_eq_false (by omega)), iteF ?_⟩⟩⟩
    have hn2 := hn.ex' e2
    obtain ⟨dx, R, L, qs, n1, n2, n3, n4⟩ := hn2.ex
    have lo := hn.links.each l hl
    have most := hn.links.most
    have few := keep_few hl
    refine ⟨_, rfl, n, dx, _, rfl, n1, rfl, _, rfl, _, rfl, _, rfl, _, rfl, _, _, rfl, rfl, _, rfl, _, rfl, _, _, rfl, rfl, n, ns, ls, (l.1, l.2.1, l.2.2.1 + t, l.2.2.2 + t), rfl, hn2, ⟨lo.1, lo.2.1, lo.2.2.1, t1, t2⟩, Nat.le_of_lt_succ (Nat.lt_of_lt_of_le few most), fun n' ls' H' e p h => q n' ls' H' (e2.trans e) p h⟩
end
end QT
namespace QT
open PySem PySem.Spec PyProof.Rows L2 QS QR
open Evl (Ex)
theorem NetAt.expI {C C' p dx' : Addr} {fs' : List (Str × V)} {H H' : Hp} {n : Addr} {ns : List Str} {ls : List Lk} (h : NetAt C H n ns ls) (hp : H p = some (.ins C' dx' fs')) (nn : n ≠ p) (e : Exp p H H') : NetAt C H' n ns ls := by
  have ne : ∀ {a : Addr} {xs : List V}, H a = some (.tup xs) → a ≠ p := fun ha z => by rw [z, hp] at ha; cases ha
  obtain ⟨dx, R, L, qs, a1, a2, a3, a4⟩ := h.ex
  exact ⟨⟨dx, R, L, qs, e _ _ nn a1, e _ _ (ne a2) a2, e _ _ (ne a3) a3, linksAt_mono (fun a xs z => e _ _ (ne z) z) a4⟩, h.names, h.links⟩
/-! ### a change -/
def PlainAt (H : Hp) (kvs : List (Key × V)) (es : List Edge) (d : Str) : Prop := ∃ q dk, valV kvs (.inr d) = some (.ref q) ∧ H q = some (.dK dk) ∧ FOf dk (fun r => QM.dist es r d)
theorem PlainAt.mono {H H' : Hp} {kvs : List (Key × V)} {es : List Edge} {d : Str} (h : PlainAt H kvs es d) (k : ∀ a xs, H a = some (.dK xs) → a ≠ a ∨ H' a = some (.dK xs)) : PlainAt H' kvs es d := by
  obtain ⟨q, dk, h1, h2, h3⟩ := h
  exact ⟨q, dk, h1, (k q dk h2).resolve_left (fun z => z rfl), h3⟩
def fsC (n pr : Addr) (le : Int) (L PL WO : Addr) : List (Str × V) := [("own_net", .ref n), ("pair", .ref pr), ("least", .int le), ("lengths", .ref L), ("plain", .ref PL), ("ways_over", .ref WO)]
def ChangeAt (C : Addr) (H : Hp) (p : Addr) (ns : List Str) (es : List Edge) (l : Lk) : Prop := ∃ dx n pr le L PL WO w1 w2 pl, H p = some (.ins C dx (fsC n pr le L PL WO)) ∧ H PL = some (.dK pl) ∧ H WO = some (.tup [.ref w1, .ref w2]) ∧
  H w1 = some (.tup [.str l.1, .int l.2.2.1, .str l.2.1]) ∧ H w2 = some (.tup [.str l.2.1, .int l.2.2.2, .str l.1]) ∧ ∀ d ∈ ns, PlainAt H pl es d
theorem ChangeAt.ex' {C : Addr} {H H' : Hp} {p : Addr} {ns : List Str} {es : List Edge} {l : Lk} (h : ChangeAt C H p ns es l) (e : Ex H H') : ChangeAt C H' p ns es l := by
  obtain ⟨dx, n, pr, le, L, PL, WO, w1, w2, pl, h1, h2, h3, h4, h5, h6⟩ := h
  exact ⟨dx, n, pr, le, L, PL, WO, w1, w2, pl, e _ _ h1, e _ _ h2, e _ _ h3, e _ _ h4, e _ _ h5, fun d hd => (h6 d hd).mono fun a xs z => .inr (e _ _ z)⟩
theorem if_var {c : Bool} {i j : Nat} {σ : L2.St} {H : Hp} {Q : VK} {a b : Int} (hi : σ[i]? = some (some (.int a))) (hj : σ[j]? = some (some (.int b))) (h : ∀ m : Int, Q (.int m) H) : if c = true then tVar i σ H Q else tVar j σ H Q := by
  cases c with
  | true => exact ⟨_, hi, h a⟩
  | false => exact ⟨_, hj, h b⟩
section
variable {P : Program} {w : World} {K : PySem.W.Frag} {mg : Str → Option Value} {base : Heap}
def sp_ch_init (C CN : Addr) : Sp := fun vs H Q _ => ∃ (p dx n : Addr) (ns : List Str) (ls : List Lk) (l : Lk), vs = [.ref p, .ref n, .str l.1, .str l.2.1] ∧ H p = some (.ins C dx []) ∧ NetAt CN H n ns ls ∧ l ∈ ls ∧
  ∀ H', Exp p H H' → ChangeAt C H' p ns (edgesOf (ls.filter fun k => !samePair l.1 l.2.1 k)) l → Q .non H'
theorem ok_ch_init (T : TX K mg) : FnOk P w K mg base CX0 8 T.ch_init.f T.ch_init.d ["self", "net", "a", "b"] (sp_ch_init T.CC T.CN) := by
  have G1 : FnOk P w K mg base CX0 3 T.link_of.f T.link_of.d ["net", "a", "b"] (sp_link_of T.CN) := ok_link_of T
  have G2 : FnOk P w K mg base CX0 3 T.lengths_of.f T.lengths_of.d ["net"] (sp_lengths_of T.CN) := ok_lengths_of T
  have G3 : FnOk P w K mg base CX0 1 T.distances_to.f T.distances_to.d ["routers", "lengths", "d"] sp_distances_to := ok_distances_to T
  have G4 : FnOk P w K mg base CX0 7 T.net_without.f T.net_without.d ["self", "a", "b"] (sp_net_without T.CN) := ok_net_without T
  refine T.ch_init.F.ok sc_ch_init (fun vs H Q E h => ?_) (fun cdv A outer s H vs Q E hr h => ?_)
  · obtain ⟨p, dx, n, ns, ls, l, rfl, _⟩ := h
    rfl
  · obtain ⟨p, dx, n, ns, ls, l, rfl, hp, hn, hl, q⟩ := h
    refine ⟨_, pss_cons (ps_asg (pe_slice sl_tup (T.link_of.call G1 (hr.mono (by decide)) (pa_cons (pv 1) (pa_cons (pv 2) (pa_cons (pv 3) pa_nil)))) (po_some pe_int) po_none) (pg_tup rfl (pgs_cons (pg_name (i := 4) sc_ch_init.nd rfl (.inl rfl)) (pgs_cons (pg_name (i := 5) sc_ch_init.nd rfl (.inl rfl)) pgs_nil))))
      (pss_cons (ps_fld (pv 0) (pv 1) rfl)
      (pss_cons (ps_fld (pv 0) (pe_tup (pa_cons (pv 2) (pa_cons (pv 3) pa_nil))) rfl)
      (pss_cons (ps_fld (pv 0) (pe_op op_sub pe_int (pe_ifExp (pt_cmpR op_lt (pv 4) (pv 5) (nomark _)) (pv 4) (pv 5))) rfl)
      (pss_cons (ps_fld (pv 0) (T.lengths_of.call G2 (hr.mono (by decide)) (pa_cons (pe_meth (pv 1) T.clN T.mO G4 hr T.net_without.b .nil pass0 (pa_cons (pv 2) (pa_cons (pv 3) pa_nil))) pa_nil)) rfl)
      (pss_cons (ps_fld (pv 0) (pe_dc (own := [("d", 6)]) (g := gName 6) (tt := tYes) (tk := tVar 6) (tv := tCall sp_distances_to [] E0 (tCons (tR T.CN (tVar 1)) (tCons (tFld K (tVar 0) "lengths") (tCons (tVar 6) tNil)))) rfl sc_ch_init.nd (pi_tup (p_routers T (hr.mono (by decide)) (pv 1))) (blkOk_by (own := [("d", 6)]) (N := N_ch_init) (sc := defScope s_ch_init) (by decide +kernel))
          (fun _ _ _ _ _ => pg_name (i := 6) sc_ch_init.nd rfl (.inl rfl)) (fun _ _ _ _ _ => pts_nil) (fun _ _ _ _ _ => pv 6)
          (fun _ _ _ _ _ => T.distances_to.call G3 (hr.mono (by decide)) (pa_cons (p_routers T (hr.mono (by decide)) (pv 1)) (pa_cons (pe_fld (pv 0) rfl) (pa_cons (pv 6) pa_nil))))) rfl)
      (pss_one (ps_fld (pv 0) (pe_tup (pa_cons (pe_tup (pa_cons (pv 2) (pa_cons (pv 4) (pa_cons (pv 3) pa_nil)))) (pa_cons (pe_tup (pa_cons (pv 3) (pa_cons (pv 5) (pa_cons (pv 2) pa_nil)))) pa_nil))) rfl))))))), ?_⟩
    have nn : n ≠ p := fun z => by
      obtain ⟨dx', R, L, qs, a1, _⟩ := hn.ex
      rw [z, hp] at a1
      injection a1 with a1
      injection a1 with _ _ a1
      cases a1
    refine ⟨_, rfl, _, rfl, _, rfl, n, ns, ls, l, rfl, hn, hl, fun H1 qa e1 hqa => ⟨2, rfl, qa, _, rfl, tyT hqa, nw2' l, fun c nc => ?_⟩⟩
    rw [cut2']
    have e2 := e1.trans (Ex.new (o := .tup [.int l.2.2.1, .int l.2.2.2]) nc)
    refine ⟨c, _, rfl, tyT upd_same, rfl, _, _, rfl, _, _, rfl, rfl, ?_⟩
    generalize (upd H1 c (.tup [.int l.2.2.1, .int l.2.2.2])) = H2 at e2 ⊢
    have p2 := e2 _ _ hp
    have hn2 := hn.ex' e2
    -- own_net
    refine ⟨_, rfl, _, rfl, p, T.CC, dx, [], rfl, p2, T.clC, T.nN, by decide, ?_⟩
    have e3 : Exp p H (upd H2 p (.ins T.CC dx (putF "own_net" (.ref n) []))) := (Exp.of e2).upd
    have p3 : (upd H2 p (.ins T.CC dx (putF "own_net" (.ref n) []))) p = some (.ins T.CC dx (putF "own_net" (.ref n) [])) := upd_same
    generalize (upd H2 p (.ins T.CC dx (putF "own_net" (.ref n) []))) = H3 at e3 p3 ⊢
    -- pair
    refine ⟨_, rfl, _, rfl, sz2, fun pr npr => ⟨_, rfl, p, T.CC, dx, _, rfl, by rw [upd_ne (ne_of_none p3 npr)]; exact p3, T.clC, T.nP, (by show 1 < 1000; decide), ?_⟩⟩
    have e4 := (e3.new (o := .tup [.str l.1, .str l.2.1]) npr).upd (o := .ins T.CC dx (putF "pair" (.ref pr) (putF "own_net" (.ref n) [])))
    have p4 : (upd (upd H3 pr (.tup [.str l.1, .str l.2.1])) p (.ins T.CC dx (putF "pair" (.ref pr) (putF "own_net" (.ref n) [])))) p = some (.ins T.CC dx (putF "pair" (.ref pr) (putF "own_net" (.ref n) []))) := upd_same
    generalize (upd (upd H3 pr (.tup [.str l.1, .str l.2.1])) p (.ins T.CC dx (putF "pair" (.ref pr) (putF "own_net" (.ref n) [])))) = H4 at e4 p4 ⊢
    -- least
    refine ⟨_, rfl, _, rfl, _, _, rfl, rfl, _, rfl, if_var rfl rfl fun m => ⟨1, m, rfl, rfl, _, rfl, p, T.CC, dx, _, rfl, p4, T.clC, T.nLe, (by show 2 < 1000; decide), ?_⟩⟩
    have e5 := e4.upd (o := .ins T.CC dx (putF "least" (.int (1 - m)) (putF "pair" (.ref pr) (putF "own_net" (.ref n) []))))
    have p5 : (upd H4 p (.ins T.CC dx (putF "least" (.int (1 - m)) (putF "pair" (.ref pr) (putF "own_net" (.ref n) []))))) p = some (.ins T.CC dx (putF "least" (.int (1 - m)) (putF "pair" (.ref pr) (putF "own_net" (.ref n) [])))) := upd_same
    generalize (upd H4 p (.ins T.CC dx (putF "least" (.int (1 - m)) (putF "pair" (.ref pr) (putF "own_net" (.ref n) []))))) = H5 at e5 p5 ⊢
    -- lengths
    have hn5 := hn.expI hp nn e5
    obtain ⟨dx5, R, L5, qs, a1, a2, a3, a4⟩ := hn5.ex
    refine ⟨_, rfl, n, dx5, _, rfl, a1, rfl, _, rfl, _, rfl, n, ns, ls, l, rfl, hn5, hl, fun m6 H6 e6 hm6 => ?_⟩
    refine ⟨m6, ns, _, rfl, hm6, fun L H7 nL e7 hL => ?_⟩
    have e57 := e6.trans e7
    refine ⟨_, rfl, p, T.CC, dx, _, rfl, e57 _ _ p5, T.clC, T.nLs, (by show 3 < 1000; decide), ?_⟩
    have pL : L ≠ p := fun z => by
      rw [z, e6 _ _ p5] at nL
      cases nL
    have e8 := (e5.trans (Exp.of e57)).upd (o := .ins T.CC dx (putF "lengths" (.ref L) (putF "least" (.int (1 - m)) (putF "pair" (.ref pr) (putF "own_net" (.ref n) [])))))
    have p8 : (upd H7 p (.ins T.CC dx (putF "lengths" (.ref L) (putF "least" (.int (1 - m)) (putF "pair" (.ref pr) (putF "own_net" (.ref n) [])))))) p = some (.ins T.CC dx (putF "lengths" (.ref L) (putF "least" (.int (1 - m)) (putF "pair" (.ref pr) (putF "own_net" (.ref n) []))))) := upd_same
    have L8 : (upd H7 p (.ins T.CC dx (putF "lengths" (.ref L) (putF "least" (.int (1 - m)) (putF "pair" (.ref pr) (putF "own_net" (.ref n) [])))))) L = some (.dT (dictE (edgesOf (ls.filter fun k => !samePair l.1 l.2.1 k)))) := by rw [upd_ne pL]; exact hL
    generalize (upd H7 p (.ins T.CC dx (putF "lengths" (.ref L) (putF "least" (.int (1 - m)) (putF "pair" (.ref pr) (putF "own_net" (.ref n) [])))))) = H8 at e8 p8 L8 ⊢
    -- plain
    have hn8 := hn.expI hp nn e8
    obtain ⟨dx8, R8, L8', qs8, b1, b2, b3, b4⟩ := hn8.ex
    have ok : EdgesOk ns (edgesOf (ls.filter fun k => !samePair l.1 l.2.1 k)) := EdgesOk.ofLinks (hn.links.sub List.filter_sublist)
    have n8 := hn.names.most
    have len : (ns.map V.str).length = ns.length := List.length_map _
    refine ⟨_, rfl, r_routers (t := tVar 0) (σ := []) (H := H) b1 ⟨R8, rfl, ⟨_, tyT b2⟩, fun D nD => dc_tup (xs := ns.map V.str) (fun i H' => Ex H8 H' ∧ ∃ kvs, H' D = some (.dK kvs) ∧ kvs.length ≤ i ∧ ∀ d ∈ ns.take i, ∃ q dk, q ≠ D ∧ valV kvs (.inr d) = some (.ref q) ∧ H' q = some (.dK dk) ∧ FOf dk (fun r => QM.dist (edgesOf (ls.filter fun k => !samePair l.1 l.2.1 k)) r d)) ?_ (fun i H' _ pv => tyT (pv.1 _ _ b2)) (fun i x H9 hx pv => ?_) (fun H9 pv => ?_)⟩⟩
    · exact ⟨Ex.new nD, [], upd_same, Nat.le_refl _, fun d hd => (by rw [List.take_zero] at hd; cases hd)⟩
    · obtain ⟨e9, kvs, hD, le, pa⟩ := pv
      rw [List.getElem?_map] at hx
      cases h1 : ns[i]? with
      | none => rw [h1] at hx; cases hx
      | some d =>
        rw [h1] at hx
        obtain rfl : V.str d = x := Option.some.inj hx
        have hi : i < ns.length := (List.getElem?_eq_some_iff.mp h1).1
        refine ⟨rfl, _, rfl, _, rfl, r_routers (t := tVar 0) (σ := []) (H := H) (e9 _ _ b1) ⟨_, rfl, p, T.CC, dx, _, .ref L, rfl, e9 _ _ p8, T.clC, T.nLs, rfl, _, rfl, R8, L, _, ns, d, rfl, e9 _ _ b2, e9 _ _ L8, ok, by omega, fun q9 dk H10 nq e10 hq fo => ?_⟩⟩
        have hD10 := e10 _ _ hD
        refine ⟨kvs, .inr d, rfl, hD10, smallT (by omega), ex_upd (e9.trans e10) nD, _, upd_same, by have := put_len kvs (.inr d : Key) (.ref q9); omega, fun d' hd' => ?_⟩
        have qD : q9 ≠ D := fun z => by rw [z, hD] at nq; cases nq
        have at9 : (upd H10 D (.dK (putK kvs (.inr d) (.ref q9)))) q9 = some (.dK dk) := by rw [upd_ne qD]; exact hq
        by_cases c1 : d' = d
        · refine ⟨q9, dk, qD, ?_, at9, by rw [c1]; exact fo⟩
          rw [c1, valV_put, if_pos rfl]
        · rw [List.take_succ, h1] at hd'
          rcases List.mem_append.mp hd' with z | z
          · obtain ⟨q1, dk1, g0, g1, g2, g3⟩ := pa d' z
            refine ⟨q1, dk1, g0, ?_, ?_, g3⟩
            · rw [valV_put, if_neg (fun z => c1 (Sum.inr.inj z))]
              exact g1
            · rw [upd_ne g0]
              exact e10 _ _ g2
          · exact absurd (List.mem_singleton.mp z) c1
    · obtain ⟨e9, kvs, hD, le, pa⟩ := pv
      rw [len, List.take_length] at pa
      refine ⟨_, rfl, p, T.CC, dx, _, rfl, e9 _ _ p8, T.clC, T.nPl, (by show 4 < 1000; decide), ?_⟩
      have pD : D ≠ p := fun z => by
        rw [z, p8] at nD
        cases nD
      have e11 := (e8.trans (Exp.of e9)).upd (o := .ins T.CC dx (putF "plain" (.ref D) (putF "lengths" (.ref L) (putF "least" (.int (1 - m)) (putF "pair" (.ref pr) (putF "own_net" (.ref n) []))))))
      have p11 : (upd H9 p (.ins T.CC dx (putF "plain" (.ref D) (putF "lengths" (.ref L) (putF "least" (.int (1 - m)) (putF "pair" (.ref pr) (putF "own_net" (.ref n) []))))))) p = some (.ins T.CC dx (putF "plain" (.ref D) (putF "lengths" (.ref L) (putF "least" (.int (1 - m)) (putF "pair" (.ref pr) (putF "own_net" (.ref n) [])))))) := upd_same
      have D11 : (upd H9 p (.ins T.CC dx (putF "plain" (.ref D) (putF "lengths" (.ref L) (putF "least" (.int (1 - m)) (putF "pair" (.ref pr) (putF "own_net" (.ref n) []))))))) D = some (.dK kvs) := by rw [upd_ne pD]; exact hD
      have pa11 : ∀ d ∈ ns, PlainAt (upd H9 p (.ins T.CC dx (putF "plain" (.ref D) (putF "lengths" (.ref L) (putF "least" (.int (1 - m)) (putF "pair" (.ref pr) (putF "own_net" (.ref n) []))))))) kvs (edgesOf (ls.filter fun k => !samePair l.1 l.2.1 k)) d := fun d hd => by
        obtain ⟨q1, dk1, _, g1, g2, g3⟩ := pa d hd
        refine ⟨q1, dk1, g1, ?_, g3⟩
        rw [upd_ne (ne_of g2 (e9 _ _ p8) (by intro z; cases z))]
        exact g2
      generalize (upd H9 p (.ins T.CC dx (putF "plain" (.ref D) (putF "lengths" (.ref L) (putF "least" (.int (1 - m)) (putF "pair" (.ref pr) (putF "own_net" (.ref n) []))))))) = H11 at e11 p11 D11 pa11 ⊢
      -- ways_over
      refine ⟨_, rfl, _, rfl, _, rfl, sz3, fun w1 nw1 => ⟨_, rfl, _, rfl, _, rfl, sz3, fun w2 nw2 => ⟨sz2, fun WO nWO => ?_⟩⟩⟩
      have f1 : Ex H11 (upd H11 w1 (.tup [.str l.1, .int l.2.2.1, .str l.2.1])) := Ex.new nw1
      have f2 := ex_upd (o := .tup [.str l.2.1, .int l.2.2.2, .str l.1]) f1 (Evl.fresh_back f1 nw2)
      have f3 := ex_upd (o := .tup [.ref w1, .ref w2]) f2 (Evl.fresh_back f2 nWO)
      have w12 : w1 ≠ w2 := ne_of_none (upd_same : (upd H11 w1 (.tup [.str l.1, .int l.2.2.1, .str l.2.1])) w1 = _) nw2
      have k1 : (upd (upd H11 w1 (.tup [.str l.1, .int l.2.2.1, .str l.2.1])) w2 (.tup [.str l.2.1, .int l.2.2.2, .str l.1])) w1 = some (.tup [.str l.1, .int l.2.2.1, .str l.2.1]) := by rw [upd_ne w12]; exact upd_same
      have k2 : (upd (upd H11 w1 (.tup [.str l.1, .int l.2.2.1, .str l.2.1])) w2 (.tup [.str l.2.1, .int l.2.2.2, .str l.1])) w2 = some (.tup [.str l.2.1, .int l.2.2.2, .str l.1]) := upd_same
      have k3 : ∀ a o, (upd (upd H11 w1 (.tup [.str l.1, .int l.2.2.1, .str l.2.1])) w2 (.tup [.str l.2.1, .int l.2.2.2, .str l.1])) a = some o → (upd (upd (upd H11 w1 (.tup [.str l.1, .int l.2.2.1, .str l.2.1])) w2 (.tup [.str l.2.1, .int l.2.2.2, .str l.1])) WO (.tup [.ref w1, .ref w2])) a = some o := fun a o h => by
        rw [upd_ne (ne_of_none h nWO)]
        exact h
      have g1 := k3 _ _ k1
      have g2 := k3 _ _ k2
      have g3 : (upd (upd (upd H11 w1 (.tup [.str l.1, .int l.2.2.1, .str l.2.1])) w2 (.tup [.str l.2.1, .int l.2.2.2, .str l.1])) WO (.tup [.ref w1, .ref w2])) WO = some (.tup [.ref w1, .ref w2]) := upd_same
      generalize (upd (upd (upd H11 w1 (.tup [.str l.1, .int l.2.2.1, .str l.2.1])) w2 (.tup [.str l.2.1, .int l.2.2.2, .str l.1])) WO (.tup [.ref w1, .ref w2])) = H12 at f3 g1 g2 g3 ⊢
      have p12 := f3 _ _ p11
      have np : ∀ {a : Addr} {o : HO}, H12 a = some o → (∀ C dx fs, o ≠ .ins C dx fs) → a ≠ p := fun h no z => by
        rw [z, p12] at h
        exact no _ _ _ (Option.some.inj h).symm
      refine ⟨_, rfl, p, T.CC, dx, _, rfl, p12, T.clC, T.nWo, (by show 5 < 1000; decide), q _ ((e11.trans (Exp.of f3)).upd) ⟨dx, n, pr, 1 - m, L, D, WO, w1, w2, kvs, upd_same, ?_, ?_, ?_, ?_, fun d hd => ?_⟩⟩
      · rw [upd_ne (np (f3 _ _ D11) fun _ _ _ z => by cases z)]; exact f3 _ _ D11
      · rw [upd_ne (np g3 fun _ _ _ z => by cases z)]; exact g3
      · rw [upd_ne (np g1 fun _ _ _ z => by cases z)]; exact g1
      · rw [upd_ne (np g2 fun _ _ _ z => by cases z)]; exact g2
      · obtain ⟨q1, dk1, h1, h2, h3⟩ := pa11 d hd
        refine ⟨q1, dk1, h1, ?_, h3⟩
        rw [upd_ne (np (f3 _ _ h2) fun _ _ _ z => by cases z)]
        exact f3 _ _ h2
end
end QT
namespace QT
open PySem PySem.Spec PyProof.Rows L2 QS QR
open Evl (Ex)
/-! ### lists of ints as data -/
theorem lay_ints (xs : List Int) : PyData.canLayAll0 (xs.map PyData.int) = true := by
  induction xs with
  | nil => rfl
  | cons x xs ih =>
    show (PyData.canLay0 (.int x) && PyData.canLayAll0 (xs.map PyData.int)) = true
    rw [ih]
    rfl
theorem deep_ints (xs : List Int) : PyData.depthAll (xs.map PyData.int) ≤ 1 := by
  induction xs with
  | nil => simp [PyData.depthAll]
  | cons x xs ih =>
    simp only [List.map_cons, PyData.depthAll, PyData.depth]
    omega
theorem sh_ints (xs : List Int) : SeqAt.shaped (.list (xs.map PyData.int)) = true := by
  unfold SeqAt.shaped
  rw [Bool.and_eq_true]
  refine ⟨lay_ints xs, decide_eq_true ?_⟩
  have := deep_ints xs
  simp only [PyData.depth]
  omega
theorem dp_ints {K : PySem.W.Frag} {H : Hp} : ∀ xs : List Int, DpAll K H (xs.map V.int) (xs.map PyData.int)
  | [] => .nil
  | x :: xs => .cons (.int x) (dp_ints xs)
theorem ne_nil (xs : List PyData) : (!PyData.eqv (.list xs) (.list [])) = !xs.isEmpty := by
  cases xs <;> simp [PyData.eqv, PyData.eqvAll]
def optV : Option Int → V
  | none => .non
  | some i => .int i
section
variable {P : Program} {w : World} {K : PySem.W.Frag} {mg : Str → Option Value} {base : Heap}
noncomputable def ovr (es : List Edge) (l : Lk) (u d : Str) : Option Int := QM.over es l.1 l.2.1 l.2.2.1 l.2.2.2 u d
noncomputable def wayOf (es : List Edge) (l : Lk) (u d : Str) : Nat → Option Int
  | 0 => QM.oAdd (QM.oAdd (QM.dist es u l.1) (some l.2.2.1)) (QM.dist es l.2.1 d)
  | _ + 1 => QM.oAdd (QM.oAdd (QM.dist es u l.2.1) (some l.2.2.2)) (QM.dist es l.1 d)
noncomputable def waysTo (es : List Edge) (l : Lk) (u d : Str) (i : Nat) : List Int := (List.range i).flatMap fun j => (wayOf es l u d j).toList
theorem ways_snoc (es : List Edge) (l : Lk) (u d : Str) (i : Nat) : waysTo es l u d (i + 1) = waysTo es l u d i ++ (wayOf es l u d i).toList := by
  unfold waysTo
  rw [List.range_succ, List.flatMap_append]
  simp
theorem ways_len (es : List Edge) (l : Lk) (u d : Str) (i : Nat) : (waysTo es l u d i).length ≤ i := by
  induction i with
  | zero => exact Nat.le_refl _
  | succ i ih =>
    rw [ways_snoc, List.length_append]
    have : (wayOf es l u d i).toList.length ≤ 1 := by
      cases wayOf es l u d i <;> simp
    omega
def sp_detour (C : Addr) : Sp := fun vs H Q _ => ∃ (p : Addr) (ns : List Str) (es : List Edge) (l : Lk) (u d : Str), vs = [.ref p, .str u, .str d] ∧ ChangeAt C H p ns es l ∧ l.1 ∈ ns ∧ l.2.1 ∈ ns ∧ d ∈ ns ∧ ∀ H', Ex H H' → Q (optV (ovr es l u d)) H'
theorem ok_detour (T : TX K mg) : FnOk P w K mg base CX0 1 T.ch_detour.f T.ch_detour.d ["self", "router", "d"] (sp_detour T.CC) := by
  refine T.ch_detour.F.ok sc_ch_detour (fun vs H Q E h => ?_) (fun cdv A outer s H vs Q E hr h => ?_)
  · obtain ⟨p, ns, es, l, u, d, rfl, _⟩ := h
    rfl
  · obtain ⟨p, ns, es, l, u, d, rfl, hc, ha, hb, hd, q⟩ := h
    obtain ⟨dx, n, pr, le, L, PL, WO, w1, w2, pl, c1, c2, c3, c4, c5, c6⟩ := hc
    have hu := hu_of hr
    have hu64 := hr.units
    refine ⟨_, pss_cons (ps_set (i := 3) sc_ch_detour.nd rfl (.inl rfl) (pe_lst pa_nil))
      (pss_cons (ps_for PassesOwn.never rfl (pi_tup (pe_fld (pv 0) rfl)) (pg_tup rfl (pgs_cons (pg_name (i := 4) sc_ch_detour.nd rfl (.inl rfl)) (pgs_cons (pg_name (i := 5) sc_ch_detour.nd rfl (.inl rfl)) (pgs_cons (pg_name (i := 6) sc_ch_detour.nd rfl (.inl rfl)) pgs_nil))))
        (pss_one (ps_if (PW.pt (pw_and (pt_cmp (pc_din hu (pv 1) (pe_dget hu (pe_fld (pv 0) rfl) (pv 4) (fun _ _ => rfl)))) (pw_and1 (pt_cmp (pc_din hu (pv 6) (pe_dget hu (pe_fld (pv 0) rfl) (pv 2) (fun _ _ => rfl)))))))
          (pss_one (ps_expr (pe_bm PySem.F.plainAttrs_list PySem.F.slot_list_append PySem.F.type_list_append mt_append (pv 3) (pa_cons (pe_callTy call_int1 (by rfl) T.n_int boot_int' (pa_cons
            (pe_op op_add (pe_op op_add (pe_dget hu (pe_dget hu (pe_fld (pv 0) rfl) (pv 4) (fun _ _ => rfl)) (pv 1) (fun _ _ => rfl)) (pv 5)) (pe_dget hu (pe_dget hu (pe_fld (pv 0) rfl) (pv 2) (fun _ _ => rfl)) (pv 6) (fun _ _ => rfl))) pa_nil)) pa_nil)))) pss_nil)))
      (pss_one (ps_ret (pe_ifExp (pt_cmpR (op_neD hu64) (pv 3) (pe_lst pa_nil) (nomark _)) (pe_callB (cr_min rfl) (by rfl) T.n_min boot_min' (pa_cons (pv 3) pa_nil)) pe_non)))), ?_⟩
    refine ⟨sz0, fun F nF => ?_⟩
    have e0 : Ex H (upd H F (.lst [])) := Ex.new nF
    refine ⟨_, rfl, p, T.CC, dx, _, .ref WO, rfl, e0 _ _ c1, T.clC, T.nWo, rfl, WO, rfl, ⟨_, tyT (e0 _ _ c3)⟩, for_it (walk_tup (xs := [V.ref w1, .ref w2])) (fun i σ H' => Ex H H' ∧ H' F = some (.lst ((waysTo es l u d i).map V.int)) ∧ ∃ a b c, σ = [some (.ref p), some (.str u), some (.str d), some (.ref F), a, b, c]) ⟨e0, upd_same, _, _, _, rfl⟩ (fun i σ H' _ pv => tyT (pv.1 _ _ c3)) (fun i x σ H1 H1' hi pv y => ?_) (fun σ H1 pv => ?_)⟩
    · obtain ⟨e1, hF, a', b', c', rfl⟩ := pv
      obtain ⟨rfl, hx⟩ := y
      obtain ⟨wa, nr, ln, fr, rfl, hw, hnr, wy⟩ : ∃ (wa : Addr) (nr : Str) (ln : Int) (fr : Str), x = .ref wa ∧ H wa = some (.tup [.str nr, .int ln, .str fr]) ∧ nr ∈ ns ∧ wayOf es l u d i = QM.oAdd (QM.oAdd (QM.dist es u nr) (some ln)) (QM.dist es fr d) := by
        match i, hx with
        | 0, hx => exact ⟨w1, _, _, _, (Option.some.inj hx).symm, c4, ha, rfl⟩
        | 1, hx => exact ⟨w2, _, _, _, (Option.some.inj hx).symm, c5, hb, rfl⟩
      obtain ⟨qn, kn, p1, p2, p3⟩ := c6 nr hnr
      obtain ⟨qd, kd, d1, d2, d3⟩ := c6 d hd
      have gp : DGet H1' PL (.str nr) (some (.ref qn)) := by
        have := DGet.k (k := .inr nr) (e1 _ _ c2)
        rw [p1] at this
        exact this
      have gd : DGet H1' PL (.str d) (some (.ref qd)) := by
        have := DGet.k (k := .inr d) (e1 _ _ c2)
        rw [d1] at this
        exact this
      have gu : DGet H1' qn (.str u) ((QM.dist es u nr).map V.int) := by
        rw [← p3 u]
        exact DGet.k (k := .inr u) (e1 _ _ p2)
      have gf : DGet H1' qd (.str fr) ((QM.dist es fr d).map V.int) := by
        rw [← d3 fr]
        exact DGet.k (k := .inr fr) (e1 _ _ d2)
      refine ⟨wa, _, rfl, tyT (e1 _ _ hw), rfl, _, _, rfl, _, _, rfl, _, _, rfl, rfl, ?_⟩
      refine ⟨_, rfl, _, rfl, p, T.CC, dx, _, .ref PL, rfl, e1 _ _ c1, T.clC, T.nPl, rfl, _, rfl, PL, _, rfl, gp, qn, _, rfl, gu, ?_⟩
      rw [Option.isSome_map]
      cases h1 : QM.dist es u nr with
      | none =>
        refine ⟨false, rfl, iteF (iteF ⟨e1, ?_, _, _, _, rfl⟩)⟩
        rw [ways_snoc, wy, h1]
        simpa [QM.oAdd] using hF
      | some x1 =>
        refine ⟨true, rfl, iteT ⟨_, rfl, _, rfl, p, T.CC, dx, _, .ref PL, rfl, e1 _ _ c1, T.clC, T.nPl, rfl, _, rfl, PL, _, rfl, gd, qd, _, rfl, gf, ?_⟩⟩
        rw [Option.isSome_map]
        rw [h1] at gu
        cases h2 : QM.dist es fr d with
        | none =>
          refine ⟨false, rfl, iteF ⟨e1, ?_, _, _, _, rfl⟩⟩
          rw [ways_snoc, wy, h1, h2]
          simpa [QM.oAdd] using hF
        | some x2 =>
          rw [h2] at gf
          have len := ways_len es l u d i
          have i2 : i < 2 := hi
          refine ⟨true, rfl, iteT ⟨_, rfl, .inl ⟨rfl, _, tyL hF⟩, _, rfl, p, T.CC, dx, _, .ref PL, rfl, e1 _ _ c1, T.clC, T.nPl, rfl, _, rfl, PL, _, rfl, gp, _, rfl, qn, _, rfl, gu, _, rfl, x1, ln, rfl, rfl, _, rfl, p, T.CC, dx, _, .ref PL, rfl, e1 _ _ c1, T.clC, T.nPl, rfl, _, rfl, PL, _, rfl, gd, _, rfl, qd, _, rfl, gf, x1 + ln, x2, rfl, rfl, .inl ⟨_, rfl, F, _, _, rfl, rfl, hF, smallT (by rw [List.length_map]; omega), ?_⟩⟩⟩
          refine ⟨ex_upd e1 nF, ?_, _, _, _, rfl⟩
          rw [upd_same, ways_snoc, wy, h1, h2, List.map_append]
          rfl
    · obtain ⟨e1, hF, a', b', c', rfl⟩ := pv
      refine ⟨_, rfl, sz0, fun E nE => ?_⟩
      have e2 : Ex H1 (upd H1 E (.lst [])) := Ex.new nE
      have hF2 : (upd H1 E (.lst [])) F = some (.lst ((waysTo es l u d 2).map V.int)) := e2 _ _ hF
      refine ⟨.list ((waysTo es l u d 2).map PyData.int), .list [], .lst (tyL hF2) (dp_ints _), .lst (tyL upd_same) .nil, sh_ints _, sh_ints [], _, rfl, ?_⟩
      rw [ne_nil]
      have ho : ovr es l u d = QM.oMin (wayOf es l u d 0) (wayOf es l u d 1) := rfl
      have hw : waysTo es l u d 2 = (wayOf es l u d 0).toList ++ (wayOf es l u d 1).toList := by
        rw [ways_snoc, ways_snoc]
        rfl
      have qq := q _ (e1.trans e2)
      rw [ho] at qq
      rw [hw] at hF2 ⊢
      cases o1 : wayOf es l u d 0 with
      | none =>
        cases o2 : wayOf es l u d 1 with
        | none =>
          rw [o1, o2] at qq
          exact iteF qq
        | some y =>
          rw [o1, o2] at qq hF2
          refine iteT ⟨_, rfl, F, [y], rfl, tyL hF2, Nat.succ_pos _, fun m hm hle => ?_⟩
          rw [List.mem_singleton.mp hm]
          exact qq
      | some x =>
        cases o2 : wayOf es l u d 1 with
        | none =>
          rw [o1, o2] at qq hF2
          refine iteT ⟨_, rfl, F, [x], rfl, tyL hF2, Nat.succ_pos _, fun m hm hle => ?_⟩
          rw [List.mem_singleton.mp hm]
          exact qq
        | some y =>
          rw [o1, o2] at qq hF2
          refine iteT ⟨_, rfl, F, [x, y], rfl, tyL hF2, Nat.succ_pos _, fun m hm hle => ?_⟩
          have l1 := hle x List.mem_cons_self
          have l2 := hle y (List.mem_cons_of_mem _ List.mem_cons_self)
          have : m = if y < x then y else x := by
            rcases List.mem_cons.mp hm with z | z
            · subst z
              split <;> omega
            · have := List.mem_singleton.mp z
              subst this
              split <;> omega
          rw [this]
          exact qq
end
end QT
namespace QT
open PySem PySem.Spec PyProof.Rows L2 QS QR
open Evl (Ex)
open Classical in
noncomputable def ptOf (es : List Edge) (l : Lk) (u d : Str) : Option Int := if u = d then none else QM.pointOf (QM.dist es u d) (ovr es l u d)
/-- a loop of a comprehension, of any form -/
theorem walk_W {J : It} {n : Nat} {G : Hp → Prop} {Y : Nat → Hp → V → Hp → Prop} (w : Walk J n G Y) {H0 : Hp} {T : V → Hp → (Hp → Prop) → Prop} {Qd : Hp → Prop} (Pv : Nat → Hp → Prop) (h0 : Pv 0 H0) (hG : ∀ i H, i ≤ n → Pv i H → G H)
    (hs : ∀ i x H H', i < n → Pv i H → Y i H x H' → T x H' (Pv (i + 1))) (hd : ∀ H, Pv n H → Qd H) :
    ∃ W : Nat → Nat → Hp → Prop, (∃ m, W 0 m H0) ∧ ∀ i m H, W i m H →
      (J.stop i H ∧ Qd H) ∨ (J.go i H ∧ ∃ Nx : Hp → Prop, (∀ H', Nx H' → ∃ m', m' < m ∧ W (i + 1) m' H') ∧ ∀ x H', J.yld i H x H' → T x H' Nx) := by
  refine ⟨fun i m H => m = n - i ∧ i ≤ n ∧ Pv i H, ⟨n, by omega, Nat.zero_le _, h0⟩, fun i m H ⟨em, le, p⟩ => ?_⟩
  have q := hG i H le p
  rcases Nat.lt_or_ge i n with lt | ge
  · exact .inr ⟨w.goes i H lt q, Pv (i + 1), fun H' p' => ⟨n - (i + 1), by omega, rfl, lt, p'⟩, fun x H' y => hs i x H H' lt p (w.yields i H x H' lt q y)⟩
  · obtain rfl : i = n := Nat.le_antisymm le ge
    exact .inl ⟨w.stops H q, hd H p⟩
section
variable {P : Program} {w : World} {K : PySem.W.Frag} {mg : Str → Option Value} {base : Heap}
def sp_ch_point (C : Addr) : Sp := fun vs H Q _ => ∃ (p : Addr) (ns : List Str) (es : List Edge) (l : Lk) (u d : Str), vs = [.ref p, .str u, .str d] ∧ ChangeAt C H p ns es l ∧ l.1 ∈ ns ∧ l.2.1 ∈ ns ∧ d ∈ ns ∧ ∀ H', Ex H H' → Q (optV (ptOf es l u d)) H'
theorem ok_ch_point (T : TX K mg) : FnOk P w K mg base CX0 2 T.ch_point.f T.ch_point.d ["self", "router", "d"] (sp_ch_point T.CC) := by
  have G1 : FnOk P w K mg base CX0 1 T.ch_detour.f T.ch_detour.d ["self", "router", "d"] (sp_detour T.CC) := ok_detour T
  refine T.ch_point.F.ok sc_ch_point (fun vs H Q E h => ?_) (fun cdv A outer s H vs Q E hr h => ?_)
  · obtain ⟨p, ns, es, l, u, d, rfl, _⟩ := h
    rfl
  · obtain ⟨p, ns, es, l, u, d, rfl, hc, ha, hb, hd, q⟩ := h
    have hu := hu_of hr
    refine ⟨_, pss_cons (ps_set (i := 3) sc_ch_point.nd rfl (.inl rfl) (pe_meth (pv 0) T.clC T.mD G1 hr T.ch_detour.b .nil pass0 (pa_cons (pv 1) (pa_cons (pv 2) pa_nil))))
      (pss_cons (ps_if (PW.pt (pw_or (pt_cmpR op_eq (pv 1) (pv 2) (nomark _)) (pw_or (pt_cmpR op_isN (pv 3) pe_non (nomark _)) (pw_or1 (pt_cmp (pc_dnotin hu (pv 1) (pe_dget hu (pe_fld (pv 0) rfl) (pv 2) (fun _ _ => rfl)))))))) (pss_one (ps_ret pe_non)) pss_nil)
      (pss_one (ps_ret (pe_op op_sub (pe_dget hu (pe_dget hu (pe_fld (pv 0) rfl) (pv 2) (fun _ _ => rfl)) (pv 1) (fun _ _ => rfl)) (pv 3))))), ?_⟩
    have hc' := hc
    obtain ⟨dx, n, pr, le, L, PL, WO, w1, w2, pl, c1, c2, c3, c4, c5, c6⟩ := hc'
    obtain ⟨qd, kd, d1, d2, d3⟩ := c6 d hd
    refine ⟨_, rfl, p, dx, _, rfl, c1, rfl, _, rfl, _, rfl, p, ns, es, l, u, d, rfl, hc, ha, hb, hd, fun H1 e1 => ?_⟩
    have qq := q H1 e1
    have gd : DGet H1 PL (.str d) (some (.ref qd)) := by
      have := DGet.k (k := .inr d) (e1 _ _ c2)
      rw [d1] at this
      exact this
    have gu : DGet H1 qd (.str u) ((QM.dist es u d).map V.int) := by
      rw [← d3 u]
      exact DGet.k (k := .inr u) (e1 _ _ d2)
    refine ⟨_, rfl, _, rfl, rfl, _, rfl, ?_⟩
    by_cases ud : u = d
    · rw [decide_eq_true (congrArg V.str ud)]
      unfold ptOf at qq
      rw [if_pos ud] at qq
      exact iteT (iteT qq)
    · rw [decide_eq_false (fun z => ud (V.str.inj z))]
      unfold ptOf at qq
      rw [if_neg ud] at qq
      cases ho : ovr es l u d with
      | none =>
        rw [ho] at qq
        refine iteF ⟨_, rfl, rfl, true, rfl, iteT (iteT ?_)⟩
        cases hp : QM.dist es u d with
        | none => rw [hp] at qq; exact qq
        | some x => rw [hp] at qq; exact qq
      | some y =>
        rw [ho] at qq
        refine iteF ⟨_, rfl, rfl, false, rfl, iteF ⟨_, rfl, _, rfl, p, T.CC, dx, _, .ref PL, rfl, e1 _ _ c1, T.clC, T.nPl, rfl, _, rfl, PL, _, rfl, gd, qd, _, rfl, gu, ?_⟩⟩
        rw [Option.isSome_map]
        cases hp : QM.dist es u d with
        | none =>
          rw [hp] at qq
          exact ⟨true, rfl, iteT qq⟩
        | some x =>
          rw [hp] at qq gu
          exact ⟨false, rfl, iteF ⟨_, rfl, p, T.CC, dx, _, .ref PL, rfl, e1 _ _ c1, T.clC, T.nPl, rfl, _, rfl, PL, _, rfl, gd, _, rfl, qd, _, rfl, gu, _, rfl, x, y, rfl, rfl, qq⟩⟩
/-- Change(..) -/
theorem p_change {X : Cx} {es : List Expr} {e : Expr} {t : TA} {p pos : Pos} (T : TX K mg) (hr : Room 9 X.A) (ha : PA X (e :: es) t) (hK : X.K = K := by rfl) (hm : X.mg = mg := by rfl) (hg : Gl X "Change" := by rfl)
    (he : starEach (e :: es) X.env = (false, eval e X.env) :: starEach es X.env := by rfl) (hpl : (backTo pos (starEach es X.env)).any (·.1) = false := by rfl) : PE X (.Call (.Name "Change" p) (e :: es) [] pos) (tMake T.CC (sp_ch_init T.CC T.CN) [] E0 t) := by
  subst hK
  subst hm
  exact pe_make T.mkC (ok_ch_init T) hr hg T.gC T.ch_init.b .nil pass0 ha (by decide) he hpl
def sp_point (C : Addr) : Sp := fun vs H Q _ => ∃ (n : Addr) (ns : List Str) (ls : List Lk) (l : Lk) (u d : Str), vs = [.ref n, .str l.1, .str l.2.1, .str u, .str d] ∧ NetAt C H n ns ls ∧ l ∈ ls ∧ u ∈ ns ∧ d ∈ ns ∧ ∀ H', Ex H H' → Q (optV (ptOf (edgesOf (ls.filter fun k => !samePair l.1 l.2.1 k)) l u d)) H'
theorem ok_point (T : TX K mg) : FnOk P w K mg base CX0 10 T.point.f T.point.d ["net", "a", "b", "router", "d"] (sp_point T.CN) := by
  have G1 : FnOk P w K mg base CX0 3 T.check_routers.f T.check_routers.d ["net", "values"] (sp_check_routers T.CN) := ok_check_routers T
  have G2 : FnOk P w K mg base CX0 2 T.ch_point.f T.ch_point.d ["self", "router", "d"] (sp_ch_point T.CC) := ok_ch_point T
  refine T.point.F.ok sc_point (fun vs H Q E h => ?_) (fun cdv A outer s H vs Q E hr h => ?_)
  · obtain ⟨n, ns, ls, l, u, d, rfl, _⟩ := h
    rfl
  · obtain ⟨n, ns, ls, l, u, d, rfl, hn, hl, hu', hd', q⟩ := h
    refine ⟨_, pss_cons (ps_set (i := 5) sc_point.nd rfl (.inl rfl) (p_change T hr (pa_cons (pv 0) (pa_cons (pv 1) (pa_cons (pv 2) pa_nil)))))
      (pss_cons (ps_expr (T.check_routers.call G1 (hr.mono (by decide)) (pa_cons (pv 0) (pa_cons (pe_tup (pa_cons (pv 3) (pa_cons (pv 4) pa_nil))) pa_nil))))
      (pss_one (ps_ret (pe_meth (pv 5) T.clC T.mP G2 (hr.mono (by decide)) T.ch_point.b .nil pass0 (pa_cons (pv 3) (pa_cons (pv 4) pa_nil)))))), ?_⟩
    refine ⟨_, rfl, _, rfl, _, rfl, ?_⟩
    intro p dx np ndx ne
    have e0 : Ex H (upd (upd H dx (.own p)) p (.ins T.CC dx [])) := ex_upd (ex_upd (Evl.Ex.refl H) ndx) np
    refine ⟨p, dx, n, ns, ls, l, rfl, upd_same, hn.ex' e0, hl, fun H1 e' hc => ⟨rfl, ?_⟩⟩
    have e1 : Ex H H1 := fun a o ha => e' a o (ne_of_none ha np) (e0 a o ha)
    refine ⟨_, rfl, _, rfl, _, rfl, sz2, fun k nk => ?_⟩
    have e2 := e1.trans (Ex.new (o := .tup [.str u, .str d]) nk)
    refine ⟨n, k, ns, [u, d], ls, rfl, hn.ex' e2, upd_same, fun x hx => ?_, ?_⟩
    · rcases List.mem_cons.mp hx with z | z
      · rw [z]; exact hu'
      · rw [List.mem_singleton.mp z]; exact hd'
    · have hc2 := hc.ex' (Ex.new (o := .tup [.str u, .str d]) nk)
      have hc3 := hc2
      obtain ⟨dx, _, _, _, _, _, _, _, _, _, c1, _⟩ := hc3
      have lo := hn.links.each l hl
      exact ⟨_, rfl, p, dx, _, rfl, c1, rfl, _, rfl, _, rfl, p, ns, _, l, u, d, rfl, hc2, lo.1, lo.2.1, hd', fun H' e => q H' (e2.trans e)⟩
end
end QT
namespace QT
open PySem PySem.Spec PyProof.Rows L2 QS QR
open Evl (Ex)
section
variable {P : Program} {w : World} {K : PySem.W.Frag} {mg : Str → Option Value} {base : Heap}
def sp_all_points (C : Addr) : Sp := fun vs H Q _ => ∃ (p R : Addr) (ns : List Str) (es : List Edge) (l : Lk), vs = [.ref p, .ref R] ∧ ChangeAt C H p ns es l ∧ H R = some (.tup (ns.map V.str)) ∧ ns.length ≤ 7 ∧ l.1 ∈ ns ∧ l.2.1 ∈ ns ∧
  ∀ q (ms : List Int) H', Ex H H' → H' q = some (.tup (ms.map V.int)) → ms.length ≤ 100 → Q (.ref q) H'
theorem ok_all_points (T : TX K mg) : FnOk P w K mg base CX0 3 T.all_points.f T.all_points.d ["change", "routers"] (sp_all_points T.CC) := by
  have G1 : FnOk P w K mg base CX0 2 T.ch_point.f T.ch_point.d ["self", "router", "d"] (sp_ch_point T.CC) := ok_ch_point T
  refine T.all_points.F.ok sc_all_points (fun vs H Q E h => ?_) (fun cdv A outer s H vs Q E hr h => ?_)
  · obtain ⟨p, R, ns, es, l, rfl, _⟩ := h
    rfl
  · obtain ⟨p, R, ns, es, l, rfl, hc, hR, n7, ha, hb, q⟩ := h
    refine ⟨_, pss_cons (ps_setLc2 (i := 2) (own := [("router", 3), ("d", 4)]) (vs1 := [4]) (g := gName 3) (g1 := gName 4) (tt := tYes) (tt1 := tYes) (wi1 := iTup K (tVar 1)) (te := tMeth T.CC "point" (sp_ch_point T.CC) [] E0 (tVar 0) (tCons (tVar 3) (tCons (tVar 4) tNil))) rfl sc_all_points.nd rfl rfl rfl (pi_tup (pv 1)) (blkOk_by (own := [("router", 3), ("d", 4)]) (N := N_all_points) (sc := defScope s_all_points) (by decide +kernel)) (by decide)
        (fun _ _ _ _ _ => pg_name (i := 3) sc_all_points.nd rfl (.inl rfl)) (fun _ _ _ _ _ => pts_nil) (fun _ _ _ _ _ => pi_tup (pv 1)) (fun _ _ _ _ _ => pg_name (i := 4) sc_all_points.nd rfl (.inl rfl)) (fun _ _ _ _ _ => pts_nil)
        (fun _ _ _ _ _ => pe_meth (pv 0) T.clC T.mP G1 hr T.ch_point.b .nil pass0 (pa_cons (pv 3) (pa_cons (pv 4) pa_nil))))
      (pss_one (ps_ret (pe_callTy call_tup (by rfl) T.n_tuple boot_tuple' (pa_cons (pe_callB (cr_sortedKs rfl) (by rfl) T.n_sorted boot_sorted' (pa_cons (pe_callTy (cr_setKs rfl) (by rfl) T.n_set boot_set' (pa_cons
        (pe_lc (own := [("at", 5)]) (g := gName 5) (te := tVar 5) rfl sc_all_points.nd (pi_list (pv 2)) (blkOk_by (own := [("at", 5)]) (N := N_all_points) (sc := defScope s_all_points) (by decide +kernel))
          (fun _ _ _ _ _ => pg_name (i := 5) sc_all_points.nd rfl (.inl rfl)) (fun _ _ _ _ _ => pts_one (pt_cmpR op_notN (pv 5) pe_non (nomark _))) (fun _ _ _ _ _ => pv 5)) pa_nil)) pa_nil)) pa_nil)))), ?_⟩
    have hc' := hc
    obtain ⟨dx, _, _, _, _, _, _, _, _, _, c1, _⟩ := hc'
    have len : (ns.map V.str).length = ns.length := List.length_map _
    refine ⟨_, rfl, R, rfl, ⟨_, tyT hR⟩, fun D nD => walk_W (walk_tup (xs := ns.map V.str)) (fun i H' => Ex H H' ∧ ∃ os : List (Option Int), H' D = some (.lst (os.map optV)) ∧ os.length ≤ i * ns.length) ⟨Ex.new nD, [], upd_same, Nat.zero_le _⟩ (fun i H' _ pv => tyT (pv.1 _ _ hR)) (fun i x H1 H1' hi pv y => ?_) (fun H1 pv => ?_)⟩
    · obtain ⟨e1, os, hD, le⟩ := pv
      obtain ⟨rfl, hx⟩ := y
      rw [List.getElem?_map] at hx
      cases h1 : ns[i]? with
      | none => rw [h1] at hx; cases hx
      | some u =>
        rw [h1] at hx
        obtain rfl : V.str u = x := Option.some.inj hx
        refine ⟨rfl, _, rfl, R, rfl, ⟨_, tyT (e1 _ _ hR)⟩, walk_W (walk_tup (xs := ns.map V.str)) (fun j H' => Ex H H' ∧ ∃ os : List (Option Int), H' D = some (.lst (os.map optV)) ∧ os.length ≤ i * ns.length + j) ⟨e1, os, hD, le⟩ (fun i H' _ pv => tyT (pv.1 _ _ hR)) (fun j x H2 H2' hj pv y => ?_) (fun H2 pv => ?_)⟩
        · obtain ⟨e2, os2, hD2, le2⟩ := pv
          obtain ⟨rfl, hx⟩ := y
          rw [List.getElem?_map] at hx
          cases h2 : ns[j]? with
          | none => rw [h2] at hx; cases hx
          | some d =>
            rw [h2] at hx
            obtain rfl : V.str d = x := Option.some.inj hx
            refine ⟨rfl, _, rfl, p, dx, _, rfl, e2 _ _ c1, rfl, _, rfl, _, rfl, p, ns, es, l, u, d, rfl, hc.ex' e2, ha, hb, List.mem_of_getElem? h2, fun H3 e3 => ?_⟩
            have hi' : i < ns.length := by omega
            have hj' : j < ns.length := by omega
            have : i * ns.length ≤ 7 * 7 := Nat.mul_le_mul (by omega) n7
            refine ⟨os2.map optV, e3 _ _ hD2, smallT (by rw [List.length_map]; omega), ex_upd (e2.trans e3) nD, os2 ++ [ptOf es l u d], by rw [upd_same, List.map_append]; rfl, ?_⟩
            rw [List.length_append]
            show _ + 1 ≤ _
            omega
        · obtain ⟨e2, os2, hD2, le2⟩ := pv
          refine ⟨e2, os2, hD2, ?_⟩
          have h2 : (i + 1) * ns.length = i * ns.length + ns.length := Nat.succ_mul _ _
          omega
    · obtain ⟨e1, os, hD, le⟩ := pv
      have o49 : os.length ≤ 49 := by
        rw [len] at le
        exact Nat.le_trans le (Nat.mul_le_mul n7 n7)
      refine ⟨_, rfl, D, rfl, ⟨_, tyL hD⟩, fun D2 nD2 => walk_W (walk_list (xs := os.map optV)) (fun i H' => Ex H1 H' ∧ ∃ ms : List Int, H' D2 = some (.lst (ms.map V.int)) ∧ ms.length ≤ i) ⟨Ex.new nD2, [], upd_same, Nat.zero_le _⟩ (fun i H' _ pv => tyL (pv.1 _ _ hD)) (fun i x H2 H2' hi pv y => ?_) (fun H2 pv => ?_)⟩
      · obtain ⟨e2, ms, hD2, le2⟩ := pv
        obtain ⟨rfl, hx⟩ := y
        rw [List.getElem?_map] at hx
        rw [List.length_map] at hi
        cases h2 : os[i]? with
        | none => rw [h2] at hx; cases hx
        | some o =>
          rw [h2] at hx
          obtain rfl : optV o = x := Option.some.inj hx
          cases o with
          | none => exact ⟨rfl, _, rfl, rfl, false, rfl, iteF ⟨e2, ms, hD2, by omega⟩⟩
          | some m =>
            refine ⟨rfl, _, rfl, rfl, true, rfl, iteT ⟨_, rfl, _, hD2, smallT (by rw [List.length_map]; omega), ex_upd e2 nD2, ms ++ [m], by rw [upd_same, List.map_append]; rfl, ?_⟩⟩
            rw [List.length_append]
            show _ + 1 ≤ _
            omega
      · obtain ⟨e2, ms, hD2, le2⟩ := pv
        have m49 : ms.length ≤ 49 := by rw [List.length_map] at le2; omega
        refine ⟨D2, ms.map Sum.inl, rfl, tyL (by rw [hD2, List.map_map]; rfl), by rw [List.length_map]; omega, fun S nS => ?_⟩
        have e3 := (e1.trans e2).trans (Ex.new (o := SetKO w S (ms.map Sum.inl)) nS)
        refine ⟨S, ms.map Sum.inl, rfl, upd_same, by rw [List.length_map]; omega, .inr ⟨ms, rfl, fun ms2 p2 l2 np2 => ?_⟩⟩
        have e4 := e3.trans (Ex.new (o := .lst (ms2.map V.int)) np2)
        refine ⟨p2, _, rfl, .inl ⟨tyL upd_same, fun T2 nT2 => ?_⟩⟩
        exact q T2 ms2 _ (e4.trans (Ex.new nT2)) upd_same (by omega)
def sp_points (C : Addr) : Sp := fun vs H Q _ => ∃ (n : Addr) (ns : List Str) (ls : List Lk) (l : Lk), vs = [.ref n, .str l.1, .str l.2.1] ∧ NetAt C H n ns ls ∧ l ∈ ls ∧ ns.length ≤ 7 ∧
  ∀ q (ms : List Int) H', Ex H H' → H' q = some (.tup (ms.map V.int)) → ms.length ≤ 100 → Q (.ref q) H'
theorem ok_points (T : TX K mg) : FnOk P w K mg base CX0 10 T.points.f T.points.d ["net", "a", "b"] (sp_points T.CN) := by
  have G1 : FnOk P w K mg base CX0 3 T.all_points.f T.all_points.d ["change", "routers"] (sp_all_points T.CC) := ok_all_points T
  refine T.points.F.ok sc_points (fun vs H Q E h => ?_) (fun cdv A outer s H vs Q E hr h => ?_)
  · obtain ⟨n, ns, ls, l, rfl, _⟩ := h
    rfl
  · obtain ⟨n, ns, ls, l, rfl, hn, hl, n7, q⟩ := h
    refine ⟨_, pss_one (ps_ret (T.all_points.call G1 (hr.mono (by decide)) (pa_cons (p_change T hr (pa_cons (pv 0) (pa_cons (pv 1) (pa_cons (pv 2) pa_nil)))) (pa_cons (p_routers T (hr.mono (by decide)) (pv 0)) pa_nil)))), ?_⟩
    refine ⟨_, rfl, _, rfl, _, rfl, ?_⟩
    intro p dx np ndx ne
    have e0 : Ex H (upd (upd H dx (.own p)) p (.ins T.CC dx [])) := ex_upd (ex_upd (Evl.Ex.refl H) ndx) np
    refine ⟨p, dx, n, ns, ls, l, rfl, upd_same, hn.ex' e0, hl, fun H1 e' hc => ⟨rfl, ?_⟩⟩
    have e1 : Ex H H1 := fun a o ha => e' a o (ne_of_none ha np) (e0 a o ha)
    obtain ⟨dx1, R, L, qs, n1, n2, n3, n4⟩ := (hn.ex' e1).ex
    have lo := hn.links.each l hl
    exact ⟨_, rfl, r_routers (t := tVar 0) (σ := []) (H := H) n1 ⟨p, R, ns, _, l, rfl, hc, n2, n7, lo.1, lo.2.1, fun qa ms H' e h1 h2 => q qa ms H' (e1.trans e) h1 h2⟩⟩
end
end QT
namespace QT
open PySem PySem.Spec PyProof.Rows L2 QS QR
open Evl (Ex)
/-! ### a pot of the law: three ints, the last counts -/
def PotAt (H : Hp) (p : Addr) (c : Nat) : Prop := ∃ x y z : Int, H p = some (.lst [.int x, .int y, .int z]) ∧ 0 ≤ x ∧ 0 ≤ y ∧ y < 2305843009213693951 ∧ 0 ≤ z ∧ z ≤ (c : Int)
theorem PotAt.ex' {H H' : Hp} {p : Addr} {c : Nat} (h : PotAt H p c) (e : Ex H H') : PotAt H' p c := by
  obtain ⟨x, y, z, h1, h2⟩ := h
  exact ⟨x, y, z, e _ _ h1, h2⟩
theorem PotAt.mono {H : Hp} {p : Addr} {c c' : Nat} (h : PotAt H p c) (k : c ≤ c') : PotAt H p c' := by
  obtain ⟨x, y, z, h1, h2, h3, h4, h5, h6⟩ := h
  exact ⟨x, y, z, h1, h2, h3, h4, h5, by omega⟩
theorem PotAt.lst {H : Hp} {p : Addr} {c : Nat} (h : PotAt H p c) : ∃ xs, H p = some (.lst xs) := by
  obtain ⟨x, y, z, h1, _⟩ := h
  exact ⟨_, h1⟩
theorem PotAt.some {H : Hp} {p : Addr} {c : Nat} (h : PotAt H p c) : H p ≠ none := by
  obtain ⟨xs, h⟩ := h.lst
  rw [h]
  exact fun z => by cases z
theorem sqL_ne {K : PySem.W.Frag} {p a : Addr} {H H' : Hp} {xs : List V} (e : Exp p H H') (n : a ≠ p) (h : SqL K H a xs) : SqL K H' a xs := by
  rcases h with (h | ⟨o, h⟩) | h
  · exact .inl (.inl (e _ _ n h))
  · exact .inl (.inr ⟨o, e _ _ n h⟩)
  · exact .inr h
theorem sqT_exp {K : PySem.W.Frag} {p a : Addr} {H H' : Hp} {xs ys : List V} (e : Exp p H H') (hp : H p = some (.lst ys)) (h : SqT K H a xs) : SqT K H' a xs := by
  rcases h with (h | ⟨o, h⟩) | h
  · exact .inl (.inl (e.tup hp h))
  · exact .inl (.inr ⟨o, e _ _ (fun z => by rw [z, hp] at h; cases h) h⟩)
  · exact .inr h
section
variable {P : Program} {w : World} {K : PySem.W.Frag} {mg : Str → Option Value} {base : Heap}
theorem if_one {c : Bool} {ta tb : TE} {σ : L2.St} {H : Hp} {Q : VK} (h1 : c = true → (∀ m : Int, Q (.int m) H) → ta σ H Q) (h2 : c = false → (∀ m : Int, Q (.int m) H) → tb σ H Q) (h : ∀ m : Int, Q (.int m) H) : if c = true then ta σ H Q else tb σ H Q := by
  cases c with
  | true => exact iteT (h1 rfl h)
  | false => exact iteF (h2 rfl h)
def sp_l_pot (K : PySem.W.Frag) : Sp := fun vs H Q _ => ∃ (a : Addr) (ns : List Int) (k : Int), vs = [.ref a, .int k] ∧ SqL K H a (ns.map V.int) ∧ 0 ≤ k ∧ k ≤ 1000 ∧ ∀ p H', H p = none → Ex H H' → PotAt H' p 0 → Q (.ref p) H'
theorem abs_nn (i : Int) : 0 ≤ (if i < 0 then -i else i) := by split <;> omega
theorem pow1 : CPow 10 60 := ⟨by decide, by decide, by decide⟩
theorem pow2 : (0 : Int) ≤ 5 ∧ (Builtin.Int.intBits ((10 : Int) ^ (60 : Int).toNat) : Int) * 5 ≤ 2 ^ 27 := ⟨by decide, by decide +kernel⟩
theorem pow3 : (0 : Int) < ((10 : Int) ^ (60 : Int).toNat) ^ (5 : Int).toNat := by decide +kernel
theorem pow4 : CPow 10 18 := ⟨by decide, by decide, by decide⟩
theorem ok_l_pot (T : TX K mg) : FnOk P w K mg base CX0 1 T.l_pot.f T.l_pot.d ["_law_script", "_law_k"] (sp_l_pot K) := by
  refine T.l_pot.F.ok sc_l_pot (fun vs H Q E h => ?_) (fun cdv A outer s H vs Q E hr h => ?_)
  · obtain ⟨a, ns, k, rfl, _⟩ := h
    rfl
  · obtain ⟨a, ns, k, rfl, ha, k0, k1, q⟩ := h
    refine ⟨_, pss_cons (ps_set (i := 2) sc_l_pot.nd rfl (.inl rfl) (pe_ifExp (pt_cmpR op_lt (pv 1) (pe_callB call_len_seq (by rfl) T.n_len PySem.boot_len (pa_cons (pv 0) pa_nil)) (nomark _)) (pe_ix ix_list (pv 0) (pv 1) (fun _ _ => rfl)) (pe_op op_add (pe_op op_mul pe_int (pv 1)) pe_int)))
      (pss_cons (ps_set (i := 3) sc_l_pot.nd rfl (.inl rfl) (pe_op op_mul (pe_op op_mod (pe_callTy call_int1 (by rfl) T.n_int boot_int' (pa_cons (pe_callB call_abs (by rfl) T.n_abs boot_abs' (pa_cons (pv 2) pa_nil)) pa_nil)) (pe_op op_powB (pe_op op_pow pe_int pe_int) pe_int))
          (pe_callTy call_int1 (by rfl) T.n_int boot_int' (pa_cons (pe_cmpR op_ge (pe_callB call_abs (by rfl) T.n_abs boot_abs' (pa_cons (pv 2) pa_nil)) (pe_op op_pow pe_int pe_int) (nomark _)) pa_nil))))
      (pss_one (ps_ret (pe_lst (pa_cons (pv 3) (pa_cons (pe_op op_mod (pe_callTy call_int1 (by rfl) T.n_int boot_int' (pa_cons
          (pe_op op_add (pe_op op_add (pe_op op_mul (pe_op op_mod (pe_callTy call_int1 (by rfl) T.n_int boot_int' (pa_cons (pv 2) pa_nil)) pe_int) pe_int) (pe_op op_mul (pe_op op_mul pe_int (pv 1)) (pv 1))) pe_int) pa_nil)) pe_int) (pa_cons pe_int pa_nil))))))), ?_⟩
    refine ⟨_, rfl, _, rfl, a, _, rfl, .inl ha, k, _, rfl, rfl, _, rfl, ?_⟩
    have gk : decide (k < ((ns.map V.int).length : Int)) = true → ∃ m : Int, atI (ns.map V.int) k = some (.int m) := fun z => by
      have hk := of_decide_eq_true z
      rw [List.length_map] at hk
      obtain ⟨j, rfl⟩ := Int.eq_ofNat_of_zero_le k0
      have hk' : j < ns.length := by omega
      refine ⟨ns[j], atI_nat ?_⟩
      rw [List.getElem?_map, List.getElem?_eq_getElem hk']
      rfl
    refine if_one (fun hc hm => ?_) (fun _ hm => ⟨_, rfl, 43, k, rfl, rfl, .inl ⟨by decide, by decide⟩, _, _, rfl, rfl, hm _⟩) fun cell => ?_
    · obtain ⟨m, hm'⟩ := gk hc
      exact ⟨_, rfl, _, rfl, a, _, k, _, rfl, rfl, ha, hm', hm m⟩
    have b01 : ∀ b : Bool, 0 ≤ (if b = true then 1 else 0 : Int) ∧ (if b = true then 1 else 0 : Int) ≤ 1 := fun b => by cases b <;> decide
    have b0 := fun b => (b01 b).1
    have b1 := fun b => (b01 b).2
    refine ⟨_, rfl, cell, rfl, .inl ⟨_, rfl, 10, 60, rfl, rfl, pow1, _, 5, rfl, rfl, pow2, _, _, rfl, rfl, pow3, _, rfl, cell, rfl, 10, 18, rfl, rfl, pow4, _, _, rfl, rfl, .inr ⟨_, rfl, _, _, rfl, rfl, .inr ⟨?_, ?_⟩, ?_⟩⟩⟩
    · exact Int.lt_of_lt_of_le (by decide) (b0 _)
    · exact Int.lt_of_le_of_lt (b1 _) (by decide)
    refine ⟨_, rfl, _, rfl, .inl ⟨cell, rfl, cell, _, rfl, rfl, (by show (0 : Int) < 2305843009213693951; decide), _, _, rfl, rfl, .inr ⟨by decide, by decide⟩, _, rfl, _, k, rfl, rfl, .inl ⟨by decide, by decide⟩, _, rfl, _, k, rfl, rfl, .inr ⟨by omega, by omega⟩, _, _, rfl, rfl, _, _, rfl, rfl, .inl ⟨_, rfl, _, _, rfl, rfl, (by show (0 : Int) < 2305843009213693921; decide), sz3, fun p np => ?_⟩⟩⟩
    refine q p _ np (Ex.new np) ⟨_, _, _, upd_same, ?_, ?_, ?_, Int.le_refl _, Int.le_refl _⟩
    · exact Int.mul_nonneg (Int.emod_nonneg _ (Int.ne_of_gt pow3)) (b0 _)
    · exact Int.emod_nonneg _ (by decide)
    · exact Int.lt_trans (Int.emod_lt_of_pos _ (by decide)) (by decide)
end
end QT
namespace QT
open PySem PySem.Spec PyProof.Rows L2 QS QR
open Evl (Ex)
section
variable {P : Program} {w : World} {K : PySem.W.Frag} {mg : Str → Option Value} {base : Heap}
theorem prime_at (z : Int) : ∃ m : Int, atI [V.int 2147483647, .int 2147483629, .int 2147483587, .int 2147483579, .int 2147483563] (z % 5) = some (.int m) ∧ 0 < m ∧ m < 2147483648 := by
  have h0 := Int.emod_nonneg z (show (5 : Int) ≠ 0 by decide)
  have h1 := Int.emod_lt_of_pos z (show (0 : Int) < 5 by decide)
  generalize z % 5 = r at h0 h1
  have : r = 0 ∨ r = 1 ∨ r = 2 ∨ r = 3 ∨ r = 4 := by omega
  rcases this with e | e | e | e | e <;> subst e
  · exact ⟨2147483647, rfl, by decide, by decide⟩
  · exact ⟨2147483629, rfl, by decide, by decide⟩
  · exact ⟨2147483587, rfl, by decide, by decide⟩
  · exact ⟨2147483579, rfl, by decide, by decide⟩
  · exact ⟨2147483563, rfl, by decide, by decide⟩
def sp_l_take : Sp := fun vs H Q _ => ∃ (p : Addr) (c : Nat) (n : Int), vs = [.ref p, .int n] ∧ PotAt H p c ∧ c ≤ 1000000 ∧ 0 < n ∧ n ≤ 1000000 ∧ ∀ r H', Exp p H H' → PotAt H' p (c + 1) → 0 ≤ r → r < n → Q (.int r) H'
theorem ok_l_take (T : TX K mg) : FnOk P w K mg base CX0 1 T.l_take.f T.l_take.d ["_law_pot_here", "_law_upto"] sp_l_take := by
  refine T.l_take.F.ok sc_l_take (fun vs H Q E h => ?_) (fun cdv A outer s H vs Q E hr h => ?_)
  · obtain ⟨p, c, n, rfl, _⟩ := h
    rfl
  · obtain ⟨p, c, n, rfl, hp, c6, n0, n6, q⟩ := h
    refine ⟨_, pss_cons (ps_if (pt_cmpR op_gt (pe_ix ix_list (pv 0) pe_int (fun _ _ => rfl)) pe_int (nomark _))
        (pss_cons (ps_set (i := 2) sc_l_take.nd rfl (.inl rfl) (pe_op op_mod (pe_callTy call_int1 (by rfl) T.n_int boot_int' (pa_cons (pe_ix ix_list (pv 0) pe_int (fun _ _ => rfl)) pa_nil)) (pv 1)))
        (pss_cons (ps_asg (pe_op op_fdiv (pe_ix ix_list (pv 0) pe_int (fun _ _ => rfl)) (pv 1)) (pg_sub (pv 0) pe_int set_list)) (pss_one (ps_ret (pv 2))))) pss_nil)
      (pss_cons (ps_asg (pe_op op_add (pe_ix ix_list (pv 0) pe_int (fun _ _ => rfl)) pe_int) (pg_sub (pv 0) pe_int set_list))
      (pss_cons (ps_set (i := 3) sc_l_take.nd rfl (.inl rfl) (pe_ix ix_list (pe_lst (pa_cons pe_int (pa_cons pe_int (pa_cons pe_int (pa_cons pe_int (pa_cons pe_int pa_nil)))))) (pe_op op_mod (pe_callTy call_int1 (by rfl) T.n_int boot_int' (pa_cons (pe_ix ix_list (pv 0) pe_int (fun _ _ => rfl)) pa_nil)) pe_int) (fun _ _ => rfl)))
      (pss_cons (ps_set (i := 4) sc_l_take.nd rfl (.inl rfl) (pe_op op_mod (pe_callTy call_int1 (by rfl) T.n_int boot_int' (pa_cons (pe_op op_pow (pe_callTy call_int1 (by rfl) T.n_int boot_int' (pa_cons
          (pe_op op_add (pe_op op_add (pe_ix ix_list (pv 0) pe_int (fun _ _ => rfl)) (pe_op op_mul (pe_op op_mul pe_int (pe_ix ix_list (pv 0) pe_int (fun _ _ => rfl))) (pe_ix ix_list (pv 0) pe_int (fun _ _ => rfl)))) pe_int) pa_nil)) pe_int) pa_nil)) (pv 3)))
      (pss_cons (ps_set (i := 4) sc_l_take.nd rfl (.inl rfl) (pe_op op_mod (pe_callTy call_int1 (by rfl) T.n_int boot_int' (pa_cons (pe_op op_mul (pv 4) (pe_op op_add (pe_op op_mod (pe_callTy call_int1 (by rfl) T.n_int boot_int' (pa_cons (pv 4) pa_nil)) pe_int) (pe_op op_mul pe_int (pe_ix ix_list (pv 0) pe_int (fun _ _ => rfl))))) pa_nil)) pe_int))
      (pss_one (ps_ret (pe_op op_mod (pe_callTy call_int1 (by rfl) T.n_int boot_int' (pa_cons (pe_op op_fdiv (pv 4) pe_int) pa_nil)) (pv 1)))))))), ?_⟩
    obtain ⟨x, y, z, hp, x0, y0, y1, z0, z1⟩ := hp
    refine ⟨_, rfl, p, _, 0, .int x, rfl, rfl, tyL hp, rfl, x, 0, rfl, rfl, _, rfl, ?_⟩
    by_cases c1 : 0 < x
    · rw [decide_eq_true c1]
      refine iteT ⟨_, rfl, p, _, 0, .int x, rfl, rfl, tyL hp, rfl, .inl ⟨x, rfl, _, rfl, x, n, rfl, rfl, n0, ?_⟩⟩
      refine ⟨_, rfl, p, _, 0, .int x, rfl, rfl, tyL hp, rfl, _, rfl, x, n, rfl, rfl, ⟨n0, by omega⟩, _, rfl, p, _, 0, 0, rfl, rfl, hp, rfl, _, rfl, ?_⟩
      refine q _ _ (Exp.refl p H).upd ⟨x / n, y, z, upd_same, Int.ediv_nonneg x0 (Int.le_of_lt n0), y0, y1, z0, by omega⟩ (Int.emod_nonneg _ (by omega)) (Int.emod_lt_of_pos _ n0)
    · rw [decide_eq_false c1]
      refine iteF ?_
      refine ⟨_, rfl, p, _, 2, .int z, rfl, rfl, tyL hp, rfl, z, 1, rfl, rfl, _, rfl, p, _, 2, 2, rfl, rfl, hp, rfl, ?_⟩
      have hp1 : (upd H p (.lst [.int x, .int y, .int (z + 1)])) p = some (.lst [.int x, .int y, .int (z + 1)]) := upd_same
      have e1 : Exp p H (upd H p (.lst [.int x, .int y, .int (z + 1)])) := (Exp.refl p H).upd
      show (fun H' => _) (upd H p (.lst [.int x, .int y, .int (z + 1)]))
      generalize (upd H p (.lst [.int x, .int y, .int (z + 1)])) = H1 at hp1 e1 ⊢
      refine ⟨Nat.le_trans (by show 5 ≤ 100000; decide) (small (Nat.le_refl _)), fun D nD => ?_⟩
      have e2 : Exp p H (upd H1 D (.lst [.int 2147483647, .int 2147483629, .int 2147483587, .int 2147483579, .int 2147483563])) := e1.new nD
      have hp2 : (upd H1 D (.lst [.int 2147483647, .int 2147483629, .int 2147483587, .int 2147483579, .int 2147483563])) p = some (.lst [.int x, .int y, .int (z + 1)]) := by
        rw [upd_ne (ne_of_none hp1 nD)]
        exact hp1
      have hD : (upd H1 D (.lst [.int 2147483647, .int 2147483629, .int 2147483587, .int 2147483579, .int 2147483563])) D = some (.lst [.int 2147483647, .int 2147483629, .int 2147483587, .int 2147483579, .int 2147483563]) := upd_same
      generalize (upd H1 D (.lst [.int 2147483647, .int 2147483629, .int 2147483587, .int 2147483579, .int 2147483563])) = H2 at hp2 e2 hD ⊢
      obtain ⟨m, hm, m0, m1⟩ := prime_at (z + 1)
      refine ⟨_, rfl, p, _, 2, .int (z + 1), rfl, rfl, tyL hp2, rfl, .inl ⟨z + 1, rfl, z + 1, 5, rfl, rfl, (by show (0 : Int) < 5; decide), D, _, _, .int m, rfl, rfl, tyL hD, hm, ?_⟩⟩
      have q0 : 0 ≤ 99989 * (z + 1) * (z + 1) := Int.mul_nonneg (by omega) (by omega)
      have q1 : 99989 * (z + 1) * (z + 1) ≤ 99989 * 1000001 * 1000001 := Int.mul_le_mul (by omega) (by omega) (by omega) (by decide)
      have q2 : (y + 99989 * (z + 1) * (z + 1) + 71).natAbs < 2 ^ 64 := by
        generalize 99989 * (z + 1) * (z + 1) = b at q0 q1
        omega
      refine ⟨_, rfl, p, _, 1, .int y, rfl, rfl, tyL hp2, rfl, _, rfl, p, _, 2, .int (z + 1), rfl, rfl, tyL hp2, rfl, 99989, z + 1, rfl, rfl, .inl ⟨by decide, by decide⟩, _, rfl, p, _, 2, .int (z + 1), rfl, rfl, tyL hp2, rfl, _, z + 1, rfl, rfl, .inr ⟨by omega, by omega⟩, y, _, rfl, rfl, _, 71, rfl, rfl, .inl ⟨_, rfl, _, 3, rfl, rfl, ⟨by decide, by decide, q2⟩, .inl ⟨_, rfl, _, rfl, _, m, rfl, rfl, m0, ?_⟩⟩⟩
      have s0 := Int.emod_nonneg ((y + 99989 * (z + 1) * (z + 1) + 71) ^ (3 : Int).toNat) (Int.ne_of_gt m0)
      have s1 := Int.emod_lt_of_pos ((y + 99989 * (z + 1) * (z + 1) + 71) ^ (3 : Int).toNat) m0
      refine ⟨_, rfl, _, rfl, .inl ⟨_, rfl, _, 10007, rfl, rfl, (by show (0 : Int) < 10007; decide), _, rfl, p, _, 2, .int (z + 1), rfl, rfl, tyL hp2, rfl, 83, z + 1, rfl, rfl, .inl ⟨by decide, by decide⟩, _, _, rfl, rfl, _, _, rfl, rfl, .inl ⟨Int.lt_of_lt_of_le (by decide) s0, Int.lt_trans (Int.lt_trans s1 m1) (by decide)⟩, .inl ⟨_, rfl, _, 2305843009213693907, rfl, rfl, (by show (0 : Int) < 2305843009213693907; decide), ?_⟩⟩⟩
      refine ⟨_, rfl, _, 103, rfl, rfl, ⟨by decide, by decide⟩, .inl ⟨_, rfl, _, rfl, _, n, rfl, rfl, n0, ?_⟩⟩
      exact q _ _ e2 ⟨x, y, z + 1, hp2, x0, y0, y1, by omega, by omega⟩ (Int.emod_nonneg _ (by omega)) (Int.emod_lt_of_pos _ n0)
end
end QT
namespace QT
open PySem PySem.Spec PyProof.Rows L2 QS QR
open Evl (Ex)
theorem atI_some {α : Type} {xs : List α} {r : Int} (h0 : 0 ≤ r) (h1 : r < (xs.length : Int)) : ∃ v, v ∈ xs ∧ atI xs r = some v := by
  obtain ⟨j, rfl⟩ := Int.eq_ofNat_of_zero_le h0
  have hj : j < xs.length := by omega
  exact ⟨xs[j], List.getElem_mem hj, atI_nat (List.getElem?_eq_getElem hj)⟩
theorem cut_turn (xs : List V) {r : Int} (h0 : 0 ≤ r) (h1 : r < (xs.length : Int)) : (cutV xs (some r) none ++ cutV xs none (some r)).Perm xs := by
  obtain ⟨j, rfl⟩ := Int.eq_ofNat_of_zero_le h0
  have hj : min j xs.length = j := by omega
  unfold cutV
  rw [HT.sIx_nat, HT.sIx_nat, HT.sIx_none, HT.sIx_none, hj, Nat.sub_zero, List.drop_zero, List.take_of_length_le (by rw [List.length_drop]; exact Nat.le_refl _)]
  exact List.perm_append_comm.trans (by rw [List.take_append_drop])
theorem Exp.ref {p : Addr} {H H' : Hp} (e : Ex H H') : Exp p H H' := Exp.of e
section
variable {P : Program} {w : World} {K : PySem.W.Frag} {mg : Str → Option Value} {base : Heap}
/-- what one of some may be -/
def OneOf (K : PySem.W.Frag) (H : Hp) (p : Addr) (s : V) (n : Nat) (R : V → Prop) : Prop :=
  (∃ a xs, s = .ref a ∧ a ≠ p ∧ SqL K H a xs ∧ xs.length = n ∧ ∀ v ∈ xs, R v) ∨ (∃ a xs, s = .ref a ∧ SqT K H a xs ∧ xs.length = n ∧ ∀ v ∈ xs, R v) ∨
  (∃ z : Str, s = .str z ∧ z.length = n ∧ ∀ ch ∈ z.cps.toList, R (.str ⟨#[ch]⟩))
def sp_l_of (K : PySem.W.Frag) : Sp := fun vs H Q _ => ∃ (p : Addr) (c n : Nat) (s : V) (R : V → Prop), vs = [.ref p, s] ∧ PotAt H p c ∧ c ≤ 1000000 ∧ 0 < n ∧ n ≤ 1000000 ∧ OneOf K H p s n R ∧ ∀ v H', Exp p H H' → PotAt H' p (c + 1) → R v → Q v H'
theorem ok_l_of (T : TX K mg) : FnOk P w K mg base CX0 2 T.l_of.f T.l_of.d ["_law_pot_here", "_law_some"] (sp_l_of K) := by
  have G1 : FnOk P w K mg base CX0 1 T.l_take.f T.l_take.d ["_law_pot_here", "_law_upto"] sp_l_take := ok_l_take T
  refine T.l_of.F.ok sc_l_of (fun vs H Q E h => ?_) (fun cdv A outer s H vs Q E hr h => ?_)
  · obtain ⟨p, c, n, s, R, rfl, _⟩ := h
    rfl
  · obtain ⟨p, c, n, s, R, rfl, hp, c6, n0, n6, hs, q⟩ := h
    refine ⟨_, pss_one (ps_ret (pe_ix ix_seq (pv 1) (T.l_take.call G1 hr (pa_cons (pv 0) (pa_cons (pe_callB call_len (by rfl) T.n_len PySem.boot_len (pa_cons (pv 1) pa_nil)) pa_nil))) (fun _ _ => rfl))), ?_⟩
    rcases hs with ⟨a, xs, rfl, na, hx, hl, hR⟩ | ⟨a, xs, rfl, hx, hl, hR⟩ | ⟨z, rfl, hl, hR⟩
    · refine ⟨_, rfl, _, rfl, _, rfl, _, n, rfl, .inl ⟨xs, hx, hl.symm⟩, p, c, n, rfl, hp, c6, by omega, by omega, fun r H' e hp' r0 r1 => ?_⟩
      obtain ⟨v, hv, hat⟩ := atI_some r0 (by rw [hl]; exact r1)
      exact .inl ⟨a, xs, r, v, rfl, rfl, sqL_ne e na hx, hat, q v H' e hp' (hR v hv)⟩
    · refine ⟨_, rfl, _, rfl, _, rfl, _, n, rfl, .inr ⟨xs, hx, hl.symm⟩, p, c, n, rfl, hp, c6, by omega, by omega, fun r H' e hp' r0 r1 => ?_⟩
      obtain ⟨v, hv, hat⟩ := atI_some r0 (by rw [hl]; exact r1)
      obtain ⟨ys, hy⟩ := hp.lst
      exact .inr (.inl ⟨a, xs, r, v, rfl, rfl, sqT_exp e hy hx, hat, q v H' e hp' (hR v hv)⟩)
    · have sz : z.length ≤ sizeLine := by rw [hl]; exact Nat.le_trans n6 (by decide)
      refine ⟨_, rfl, _, rfl, _, rfl, _, n, rfl, ⟨sz, hl.symm⟩, p, c, n, rfl, hp, c6, by omega, by omega, fun r H' e hp' r0 r1 => ?_⟩
      have zl : z.cps.toList.length = n := by rw [← hl]; exact Array.length_toList
      obtain ⟨v, hv, hat⟩ := atI_some r0 (by rw [zl]; exact r1)
      exact .inr (.inr ⟨z, r, v, rfl, rfl, sz, hat, q _ H' e hp' (hR v hv)⟩)
def sp_l_turned (K : PySem.W.Frag) : Sp := fun vs H Q _ => ∃ (p a : Addr) (c : Nat) (xs : List V), vs = [.ref p, .ref a] ∧ PotAt H p c ∧ c ≤ 999000 ∧ a ≠ p ∧ SqL K H a xs ∧ 0 < xs.length ∧ xs.length ≤ 1000 ∧ ∀ q ys H', H q = none → Exp p H H' → PotAt H' p (c + 2) → H' q = some (.lst ys) → ys.Perm xs → Q (.ref q) H'
theorem ok_l_turned (T : TX K mg) : FnOk P w K mg base CX0 2 T.l_turned.f T.l_turned.d ["_law_pot_here", "_law_some"] (sp_l_turned K) := by
  have G1 : FnOk P w K mg base CX0 1 T.l_take.f T.l_take.d ["_law_pot_here", "_law_upto"] sp_l_take := ok_l_take T
  refine T.l_turned.F.ok sc_l_turned (fun vs H Q E h => ?_) (fun cdv A outer s H vs Q E hr h => ?_)
  · obtain ⟨p, a, c, xs, rfl, _⟩ := h
    rfl
  · obtain ⟨p, a, c, xs, rfl, hp, c6, na, hx, x0, x6, q⟩ := h
    refine ⟨_, pss_cons (ps_set (i := 2) sc_l_turned.nd rfl (.inl rfl) (T.l_take.call G1 hr (pa_cons (pv 0) (pa_cons (pe_callB call_len_seq (by rfl) T.n_len PySem.boot_len (pa_cons (pv 1) pa_nil)) pa_nil))))
      (pss_cons (ps_set (i := 3) sc_l_turned.nd rfl (.inl rfl) (pe_op op_cat (pe_slice sl_list (pv 1) (po_some (pv 2)) po_none) (pe_slice sl_list (pv 1) po_none (po_some (pv 2)))))
      (pss_one (ps_ret (pe_ifExp (pt_cmpR op_eq (T.l_take.call G1 hr (pa_cons (pv 0) (pa_cons pe_int pa_nil))) pe_int (nomark _)) (pe_revL (pv 3)) (pv 3))))), ?_⟩
    refine ⟨_, rfl, _, rfl, a, xs, rfl, .inl hx, p, c, _, rfl, hp, by omega, by omega, by omega, fun r H1 e1 hp1 r0 r1 => ?_⟩
    have hx1 := sqL_ne e1 na hx
    refine ⟨_, rfl, _, rfl, r, rfl, a, xs, rfl, hx1, fun s1 ns1 => ⟨_, rfl, _, rfl, r, rfl, a, xs, rfl, ?_, fun s2 ns2 => ?_⟩⟩
    · exact Evl.ex_l (Ex.new ns1) hx1
    have f1 : Ex H1 (upd H1 s1 (.lst (cutV xs (some r) none))) := Ex.new ns1
    have f2 := ex_upd (o := .lst (cutV xs none (some r))) f1 (Evl.fresh_back f1 ns2)
    have k1 : (upd (upd H1 s1 (.lst (cutV xs (some r) none))) s2 (.lst (cutV xs none (some r)))) s1 = some (.lst (cutV xs (some r) none)) := by
      rw [upd_ne (ne_of_none (upd_same : (upd H1 s1 (.lst (cutV xs (some r) none))) s1 = _) ns2)]
      exact upd_same
    have k2 : (upd (upd H1 s1 (.lst (cutV xs (some r) none))) s2 (.lst (cutV xs none (some r)))) s2 = some (.lst (cutV xs none (some r))) := upd_same
    generalize (upd (upd H1 s1 (.lst (cutV xs (some r) none))) s2 (.lst (cutV xs none (some r)))) = H2 at f2 k1 k2 ⊢
    have l1 := cutV_length xs (some r) none
    have l2 := cutV_length xs none (some r)
    refine ⟨s1, s2, _, _, rfl, rfl, k1, k2, Nat.le_trans (Nat.add_le_add l1 l2) (small (n := xs.length + xs.length) (by omega)), fun t nt => ?_⟩
    have f3 := ex_upd (o := .lst (cutV xs (some r) none ++ cutV xs none (some r))) f2 (Evl.fresh_back f2 nt)
    have k3 : (upd H2 t (.lst (cutV xs (some r) none ++ cutV xs none (some r)))) t = some (.lst (cutV xs (some r) none ++ cutV xs none (some r))) := upd_same
    have nt1 : H1 t = none := Evl.fresh_back f2 nt
    generalize (upd H2 t (.lst (cutV xs (some r) none ++ cutV xs none (some r)))) = H3 at f3 k3 ⊢
    have pm := cut_turn xs r0 r1
    have tp : t ≠ p := fun z => by
      obtain ⟨ys, hy⟩ := hp1.lst
      rw [z, hy] at nt1
      cases nt1
    have nt0 : H t = none := by
      cases hh : H t with
      | none => rfl
      | some o =>
        have := e1 _ _ tp hh
        rw [nt1] at this
        cases this
    refine ⟨_, rfl, p, c + 1, 2, rfl, hp1.ex' f3, by omega, by decide, by decide, fun r2 H4 e4 hp4 _ _ => ⟨rfl, _, rfl, ?_⟩⟩
    have e5 := (e1.trans (Exp.of f3)).trans e4
    have k4 := e4 _ _ tp k3
    show if decide (V.int r2 = V.int 1) = true then _ else _
    cases hd : decide (V.int r2 = V.int 1) with
    | false => exact iteF ⟨_, rfl, q t _ H4 nt0 e5 hp4 k4 pm⟩
    | true =>
      refine iteT ⟨_, rfl, t, _, rfl, tyL k4, fun u nu => ?_⟩
      have up : u ≠ p := fun z => by
        obtain ⟨ys, hy⟩ := hp4.lst
        rw [z, hy] at nu
        cases nu
      have nu0 : H u = none := by
        cases hh : H u with
        | none => rfl
        | some o =>
          have := e5 _ _ up hh
          rw [nu] at this
          cases this
      exact q u _ _ nu0 (e5.new nu) (hp4.ex' (Ex.new nu)) upd_same ((List.reverse_perm _).trans pm)
def sp_l_far : Sp := fun vs H Q _ => ∃ (p : Addr) (c : Nat), vs = [.ref p] ∧ PotAt H p c ∧ c ≤ 999000 ∧ ∀ m H', Exp p H H' → PotAt H' p (c + 3) → 1 ≤ m → m ≤ 100 → Q (.int m) H'
theorem ok_l_far (T : TX K mg) : FnOk P w K mg base CX0 3 T.l_far.f T.l_far.d ["_law_pot_here"] sp_l_far := by
  have G1 : FnOk P w K mg base CX0 1 T.l_take.f T.l_take.d ["_law_pot_here", "_law_upto"] sp_l_take := ok_l_take T
  have G2 : FnOk P w K mg base CX0 2 T.l_of.f T.l_of.d ["_law_pot_here", "_law_some"] (sp_l_of K) := ok_l_of T
  refine T.l_far.F.ok sc_l_far (fun vs H Q E h => ?_) (fun cdv A outer s H vs Q E hr h => ?_)
  · obtain ⟨p, c, rfl, _⟩ := h
    rfl
  · obtain ⟨p, c, rfl, hp, c6, q⟩ := h
    refine ⟨_, pss_one (ps_ret (T.l_of.call G2 hr (pa_cons (pv 0) (pa_cons (pe_lst (pa_cons pe_int (pa_cons pe_int (pa_cons pe_int (pa_cons pe_int (pa_cons pe_int (pa_cons pe_int (pa_cons pe_int (pa_cons pe_int (pa_cons pe_int (pa_cons pe_int
      (pa_cons (pe_op op_add pe_int (T.l_take.call G1 (hr.mono (by decide)) (pa_cons (pv 0) (pa_cons pe_int pa_nil)))) (pa_cons (pe_op op_add pe_int (T.l_take.call G1 (hr.mono (by decide)) (pa_cons (pv 0) (pa_cons pe_int pa_nil)))) pa_nil))))))))))))) pa_nil)))), ?_⟩
    refine ⟨_, rfl, _, rfl, p, c, 12, rfl, hp, by omega, by decide, by decide, fun r1 H1 e1 hp1 r10 r1l => ⟨1, r1, rfl, rfl, _, rfl, p, c + 1, 90, rfl, hp1, by omega, by decide, by decide, fun r2 H2 e2 hp2 r20 r2l => ⟨1, r2, rfl, rfl, small (by show 12 ≤ 100000; decide), fun D nD => ?_⟩⟩⟩
    have hp3 := hp2.ex' (Ex.new (o := .lst [.int 1, .int 1, .int 2, .int 2, .int 3, .int 1, .int 4, .int 2, .int 5, .int 3, .int (1 + r1), .int (1 + r2)]) nD)
    have Dp : D ≠ p := fun z => by
      obtain ⟨ys, hy⟩ := hp2.lst
      rw [z, hy] at nD
      cases nD
    refine ⟨p, c + 2, 12, _, fun v => ∃ m : Int, v = .int m ∧ 1 ≤ m ∧ m ≤ 100, rfl, hp3, by omega, by decide, by decide, .inl ⟨D, _, rfl, Dp, tyL upd_same, rfl, ?_⟩, fun v H' e hp' ⟨m, hm, m1, m2⟩ => ?_⟩
    · intro v hv
      simp only [List.mem_cons, List.not_mem_nil, or_false] at hv
      rcases hv with h | h | h | h | h | h | h | h | h | h | h | h
      all_goals exact ⟨_, h, by omega, by omega⟩
    · rw [hm]
      exact q m H' (((e1.trans e2).new nD).trans e) hp' m1 m2
end
end QT
namespace QT
open PySem PySem.Spec PyProof.Rows L2 QS QR
open Evl (Ex)
theorem asc_cons : ∀ (r : List Str) (x : Str), risingS x r = true → (x :: r).Nodup → (∀ y ∈ r, slt x y) ∧ r.Pairwise slt
  | [], _, _, _ => ⟨fun y hy => (by cases hy), .nil⟩
  | y :: r, x, h, nd => by
    have h' : (!ltCps y.cps.toList x.cps.toList && risingS y r) = true := h
    rw [Bool.and_eq_true] at h'
    obtain ⟨h1, h2⟩ := h'
    have nd' := List.nodup_cons.mp nd
    obtain ⟨i1, i2⟩ := asc_cons r y h2 nd'.2
    have xy : slt x y := by
      rw [PyProof.Rows.ltCps_eq, Bool.not_eq_true', decide_eq_false_iff_not] at h1
      rcases slt_tri x y with z | z | z
      · exact z
      · exact absurd (by rw [z]; exact List.mem_cons_self) nd'.1
      · exact absurd z h1
    refine ⟨fun z hz => ?_, List.pairwise_cons.mpr ⟨i1, i2⟩⟩
    rcases List.mem_cons.mp hz with e | e
    · rw [e]; exact xy
    · exact slt_trans xy (i1 z e)
theorem asc_of_sorted {ys : List Str} (h : sortedS ys = true) (nd : ys.Nodup) : ys.Pairwise slt := by
  cases ys with
  | nil => exact .nil
  | cons x r =>
    obtain ⟨h1, h2⟩ := asc_cons r x h nd
    exact List.pairwise_cons.mpr ⟨h1, h2⟩
theorem join_nil (ys : List Str) : (Txt.join Str.empty ys).cps.toList = (ys.map fun y => y.cps.toList).flatten := by
  show (Builtin.Str.glued Str.empty ys).cps.toList = _
  rw [StrLaws.glued_eq_join]
  induction ys with
  | nil => rfl
  | cons x r ih =>
    cases r with
    | nil => show x.cps.toList = x.cps.toList ++ []; rw [List.append_nil]
    | cons y r =>
      show (x ++ Str.empty ++ Str.join Str.empty (y :: r)).cps.toList = _
      rw [Str.append_empty, Str.cps_append, Array.toList_append, ih]
      rfl
theorem fresh_exp {p q : Addr} {H H' : Hp} {c : Nat} (e : Exp p H H') (hp : PotAt H' p c) (nq : H' q = none) : H q = none ∧ q ≠ p := by
  have ne : q ≠ p := fun z => by
    obtain ⟨xs, h⟩ := hp.lst
    rw [z, h] at nq
    cases nq
  refine ⟨?_, ne⟩
  cases hh : H q with
  | none => rfl
  | some o =>
    have := e _ _ ne hh
    rw [nq] at this
    cases this
theorem cut_lo {z : Str} {r : Int} (h0 : 0 ≤ r) (h1 : r ≤ (z.length : Int)) : (cutS z none (some r)).cps.toList = z.cps.toList.take r.toNat := by
  obtain ⟨j, rfl⟩ := Int.eq_ofNat_of_zero_le h0
  have hj : min j z.length = j := by omega
  unfold cutS
  rw [HT.sIx_nat, HT.sIx_none, hj, Nat.sub_zero, List.drop_zero]
  rfl
theorem cut_hi {z : Str} {r : Int} (h0 : 0 ≤ r) (h1 : r ≤ (z.length : Int)) : (cutS z (some r) none).cps.toList = z.cps.toList.drop r.toNat := by
  obtain ⟨j, rfl⟩ := Int.eq_ofNat_of_zero_le h0
  have hj : min j z.length = j := by omega
  unfold cutS
  rw [HT.sIx_nat, HT.sIx_none, hj]
  show (z.cps.toList.drop j).take (z.length - j) = z.cps.toList.drop j
  exact List.take_of_length_le (by rw [List.length_drop, Array.length_toList]; exact Nat.le_refl _)
def nameAt (z : Str) (r1 r2 : Int) (k : Nat) : Str := cutS z none (some r1) ++ ⟨#[97 + ((r2 + 5 * (0 + (k : Int))) % 26).toNat]⟩ ++ cutS z (some r1) none
theorem name_cps {z : Str} {r1 : Int} (r2 : Int) (h0 : 0 ≤ r1) (h1 : r1 ≤ (z.length : Int)) (k : Nat) : (nameAt z r1 r2 k).cps.toList = z.cps.toList.take r1.toNat ++ [97 + ((r2 + 5 * (0 + (k : Int))) % 26).toNat] ++ z.cps.toList.drop r1.toNat := by
  unfold nameAt
  rw [Str.cps_append, Str.cps_append, Array.toList_append, Array.toList_append, cut_lo h0 h1, cut_hi h0 h1]
def Letter (c : Nat) : Prop := 97 ≤ c ∧ c ≤ 122
theorem name_ok {z : Str} {r1 : Int} (r2 : Int) (h0 : 0 ≤ r1) (h1 : r1 ≤ (z.length : Int)) (hz : z.length ≤ 7) (hl : ∀ c ∈ z.cps.toList, Letter c) (k : Nat) : NameOk (nameAt z r1 r2 k) := by
  have e := name_cps r2 h0 h1 k
  have len : (nameAt z r1 r2 k).length = z.length + 1 := by
    show (nameAt z r1 r2 k).cps.size = z.cps.size + 1
    rw [← Array.length_toList, e, List.length_append, List.length_append, List.length_take, List.length_drop, Array.length_toList]
    have : r1.toNat ≤ z.cps.size := by
      have : (z.length : Int) = (z.cps.size : Int) := rfl
      omega
    show min r1.toNat z.cps.size + 1 + _ = _
    omega
  refine ⟨by omega, by omega, fun c hc => ?_⟩
  rw [e] at hc
  rcases List.mem_append.mp hc with hc | hc
  · rcases List.mem_append.mp hc with hc | hc
    · exact hl c (List.mem_of_mem_take hc)
    · rw [List.mem_singleton.mp hc]
      have := Int.emod_nonneg (r2 + 5 * (0 + (k : Int))) (show (26 : Int) ≠ 0 by decide)
      have := Int.emod_lt_of_pos (r2 + 5 * (0 + (k : Int))) (show (0 : Int) < 26 by decide)
      omega
  · exact hl c (List.mem_of_mem_drop hc)
theorem name_ne {z : Str} {r1 : Int} (r2 : Int) (h0 : 0 ≤ r1) (h1 : r1 ≤ (z.length : Int)) : nameAt z r1 r2 0 ≠ nameAt z r1 r2 1 := fun h => by
  have e0 := name_cps r2 h0 h1 0
  have e1 := name_cps r2 h0 h1 1
  rw [h, e1, List.append_assoc, List.append_assoc] at e0
  have := List.append_cancel_left e0
  injection this with h2 _
  have := Int.emod_nonneg (r2 + 5 * (0 + ((0 : Nat) : Int))) (show (26 : Int) ≠ 0 by decide)
  have := Int.emod_nonneg (r2 + 5 * (0 + ((1 : Nat) : Int))) (show (26 : Int) ≠ 0 by decide)
  omega
theorem small_at {r : Int} (h0 : 0 ≤ r) (h1 : r < 26) : atI ("abcdefghijklmnopqrstuvwxyz" : Str).cps.toList r = some (97 + r.toNat) := by
  obtain ⟨j, rfl⟩ := Int.eq_ofNat_of_zero_le h0
  have all : ∀ j : Fin 26, ("abcdefghijklmnopqrstuvwxyz" : Str).cps.toList[j.val]? = some (97 + j.val) := by decide +kernel
  have hj : j < 26 := by omega
  have := all ⟨j, hj⟩
  rw [Int.toNat_natCast]
  exact atI_nat this
theorem small_letters : ∀ c ∈ ("abcdefghijklmnopqrstuvwxyz" : Str).cps.toList, 97 ≤ c ∧ c ≤ 122 := by decide +kernel
theorem sum_ones : ∀ ys : List Str, (∀ y ∈ ys, y.cps.toList.length = 1) → (ys.map (·.length)).sum = ys.length
  | [], _ => rfl
  | y :: ys, h => by
    rw [List.map_cons, List.sum_cons, sum_ones ys fun z hz => h z (List.mem_cons_of_mem _ hz), List.length_cons]
    have := h y List.mem_cons_self
    have e : y.length = y.cps.toList.length := Array.length_toList.symm
    omega
section
variable {P : Program} {w : World} {K : PySem.W.Frag} {mg : Str → Option Value} {base : Heap}
def sp_l_names : Sp := fun vs H Q _ => ∃ (p : Addr) (c : Nat) (m : Nat), vs = [.ref p, .int (m : Int)] ∧ PotAt H p c ∧ c ≤ 900000 ∧ 2 ≤ m ∧ m ≤ 7 ∧ ∀ q ns H', H q = none → Exp p H H' → PotAt H' p (c + 20) → H' q = some (.lst (ns.map V.str)) → NamesOk ns → ns.length ≤ m → Q (.ref q) H'
theorem ok_l_names (T : TX K mg) : FnOk P w K mg base CX0 3 T.l_names.f T.l_names.d ["_law_pot_here", "_law_many"] sp_l_names := by
  have G1 : FnOk P w K mg base CX0 1 T.l_take.f T.l_take.d ["_law_pot_here", "_law_upto"] sp_l_take := ok_l_take T
  have G2 : FnOk P w K mg base CX0 2 T.l_of.f T.l_of.d ["_law_pot_here", "_law_some"] (sp_l_of K) := ok_l_of T
  refine T.l_names.F.ok sc_l_names (fun vs H Q E h => ?_) (fun cdv A outer s H vs Q E hr h => ?_)
  · obtain ⟨p, c, m, rfl, _⟩ := h
    rfl
  · obtain ⟨p, c, m, rfl, hp, c9, m2, m7, q⟩ := h
    refine ⟨_, pss_cons (ps_set (i := 2) sc_l_names.nd rfl (.inr rfl) pe_str)
      (pss_cons (ps_set (i := 3) sc_l_names.nd rfl (.inr rfl) (pe_join pe_str (pe_lc (own := [("_law_turn", 7)]) (g := gName 7) (tt := tYes) (te := tCall (sp_l_of K) [] E0 (tCons (tVar 0) (tCons (tVar 2) tNil))) rfl sc_l_names.nd (pi_range1 (by rfl) T.n_range (pa_cons (T.l_of.call G2 hr (pa_cons (pv 0) (pa_cons (pe_lst (pa_cons pe_int (pa_cons pe_int (pa_cons pe_int (pa_cons pe_int (pa_cons pe_int (pa_cons pe_int (pa_cons pe_int (pa_cons pe_int (pa_cons pe_int pa_nil)))))))))) pa_nil))) pa_nil))
          (blkOk_by (own := [("_law_turn", 7)]) (N := N_l_names) (sc := defScope s_l_names) (by decide +kernel))
          (fun _ _ _ _ _ => pg_name (i := 7) sc_l_names.nd rfl (.inl rfl)) (fun _ _ _ _ _ => pts_nil) (fun _ _ _ _ _ => T.l_of.call G2 hr (pa_cons (pv 0) (pa_cons (pv 2) pa_nil))))))
      (pss_cons (ps_asg (pe_tup (pa_cons (T.l_take.call G1 (hr.mono (by decide)) (pa_cons (pv 0) (pa_cons (pe_op op_add (pe_callB call_len (by rfl) T.n_len PySem.boot_len (pa_cons (pv 3) pa_nil)) pe_int) pa_nil))) (pa_cons (T.l_take.call G1 (hr.mono (by decide)) (pa_cons (pv 0) (pa_cons pe_int pa_nil))) pa_nil))) (pg_tup rfl (pgs_cons (pg_name (i := 4) sc_l_names.nd rfl (.inr rfl)) (pgs_cons (pg_name (i := 5) sc_l_names.nd rfl (.inr rfl)) pgs_nil))))
      (pss_cons (ps_setLc (i := 6) (own := [("_law_k", 8)]) (g := gName 8) (tt := tYes) rfl sc_l_names.nd rfl rfl rfl (pi_range1 (by rfl) T.n_range (pa_cons (pv 1) pa_nil)) (blkOk_by (own := [("_law_k", 8)]) (N := N_l_names) (sc := defScope s_l_names) (by decide +kernel))
          (fun _ _ _ _ _ => pg_name (i := 8) sc_l_names.nd rfl (.inl rfl)) (fun _ _ _ _ _ => pts_nil)
          (fun _ _ _ _ _ => pe_op op_add_str (pe_op op_add_str (pe_slice sl_str (pv 3) po_none (po_some (pv 4))) (pe_ix ix_str (pv 2) (pe_op op_mod (pe_callTy call_int1 (by rfl) T.n_int boot_int' (pa_cons (pe_op op_add (pv 5) (pe_op op_mul pe_int (pv 8))) pa_nil)) pe_int) (fun _ _ => rfl))) (pe_slice sl_str (pv 3) (po_some (pv 4)) po_none)))
      (pss_one (ps_ret (pe_callB (cr_sortedKs rfl) (by rfl) T.n_sorted boot_sorted' (pa_cons (pe_callTy (cr_setKs rfl) (by rfl) T.n_set boot_set' (pa_cons (pv 6) pa_nil)) pa_nil))))))), ?_⟩
    refine ⟨⟨_, rfl⟩, _, rfl, small (by show 9 ≤ 100000; decide), fun D0 nD0 => ?_⟩
    have e0 : Exp p H (upd H D0 (.lst [.int 0, .int 0, .int 1, .int 2, .int 3, .int 4, .int 5, .int 6, .int 7])) := (Exp.refl p H).new nD0
    have hp0 := hp.ex' (Ex.new (o := .lst [.int 0, .int 0, .int 1, .int 2, .int 3, .int 4, .int 5, .int 6, .int 7]) nD0)
    have D0p : D0 ≠ p := (fresh_exp (Exp.refl p H) hp nD0).2
    refine ⟨p, c, 9, _, fun v => ∃ j : Nat, v = .int (j : Int) ∧ j ≤ 7, rfl, hp0, by omega, by decide, by decide, .inl ⟨D0, _, rfl, D0p, tyL upd_same, rfl, fun v hv => ?_⟩, fun v H1 e1 hp1 hv => ?_⟩
    · simp only [List.mem_cons, List.not_mem_nil, or_false] at hv
      rcases hv with h | h | h | h | h | h | h | h | h
      · exact ⟨0, h, by decide⟩
      · exact ⟨0, h, by decide⟩
      · exact ⟨1, h, by decide⟩
      · exact ⟨2, h, by decide⟩
      · exact ⟨3, h, by decide⟩
      · exact ⟨4, h, by decide⟩
      · exact ⟨5, h, by decide⟩
      · exact ⟨6, h, by decide⟩
      · exact ⟨7, h, by decide⟩
    obtain ⟨j, rfl, j7⟩ := hv
    have e01 := e0.trans e1
    refine ⟨(j : Int), rfl, by omega, by omega, fun D nD => walk_W (walk_range (lo := 0) (n := (j : Int).toNat)) (fun i H' => Exp p H1 H' ∧ PotAt H' p (c + 1 + i) ∧ ∃ ys : List Str, H' D = some (.lst (ys.map V.str)) ∧ ys.length = i ∧ ∀ y ∈ ys, y.cps.toList.length = 1 ∧ ∀ ch ∈ y.cps.toList, Letter ch) ?_ (fun _ _ _ _ => trivial) (fun i x H2 H2' hi pv y => ?_) (fun H2 pv => ?_)⟩
    · exact ⟨(Exp.refl p H1).new nD, hp1.ex' (Ex.new nD), [], upd_same, rfl, fun y hy => by cases hy⟩
    · obtain ⟨e2, hp2, ys, hD, hl, hys⟩ := pv
      obtain ⟨rfl, rfl⟩ := y
      have i7 : i < 7 + 1 := by omega
      refine ⟨rfl, _, rfl, _, rfl, p, c + 1 + i, 26, _, fun v => ∃ ch : Nat, v = .str ⟨#[ch]⟩ ∧ Letter ch, rfl, hp2, by omega, by decide, by decide, .inr (.inr ⟨_, rfl, by decide +kernel, fun ch hch => ⟨ch, rfl, small_letters ch hch⟩⟩), fun v H3 e3 hp3 hv => ?_⟩
      obtain ⟨ch, rfl, hch⟩ := hv
      have Dp : D ≠ p := (fresh_exp (Exp.refl p H1) hp1 nD).2
      refine ⟨_, e3 _ _ Dp hD, smallT (by rw [List.length_map, hl]; omega), ?_, ?_, ys ++ [⟨#[ch]⟩], by rw [upd_same, List.map_append]; rfl, by rw [List.length_append, hl]; rfl, fun y hy => ?_⟩
      · intro a o na ha
        have n1 : a ≠ D := ne_of_none ha nD
        rw [upd_ne n1]
        exact e3 _ _ na (e2 _ _ na ha)
      · obtain ⟨x, y, z, g1, g2⟩ := hp3
        exact ⟨x, y, z, by rw [upd_ne (Ne.symm Dp)]; exact g1, g2⟩
      · rcases List.mem_append.mp hy with z | z
        · exact hys y z
        · rw [List.mem_singleton.mp z]
          refine ⟨rfl, fun c' hc' => ?_⟩
          rw [List.mem_singleton.mp (show c' ∈ [ch] from hc')]
          exact hch
    · obtain ⟨e2, hp2, ys, hD, hl, hys⟩ := pv
      rw [Int.toNat_natCast] at hp2 hl
      refine ⟨_, D, ys, rfl, rfl, .inl (tyL hD), ?_, ?_⟩
      · rw [sum_ones ys fun y hy => (hys y hy).1]
        show ys.length + ys.length * 0 ≤ _
        omega
      have hstem : (Txt.join (Str.ofString "") ys).cps.toList = (ys.map fun y => y.cps.toList).flatten := join_nil ys
      have lstem : (Txt.join (Str.ofString "") ys).length ≤ 7 := by
        show (Txt.join (Str.ofString "") ys).cps.size ≤ 7
        rw [← Array.length_toList, hstem, List.length_flatten, List.map_map]
        have : (List.map (List.length ∘ fun y : Str => y.cps.toList) ys).sum = ys.length := by
          have := sum_ones ys fun y hy => (hys y hy).1
          rw [← this]
          congr 1
        omega
      have cstem : ∀ ch ∈ (Txt.join (Str.ofString "") ys).cps.toList, Letter ch := fun ch hch => by
        rw [hstem] at hch
        obtain ⟨l, h1, h2⟩ := List.mem_flatten.mp hch
        obtain ⟨y, h3, rfl⟩ := List.mem_map.mp h1
        exact (hys y h3).2 ch h2
      generalize Txt.join (Str.ofString "") ys = stem at lstem cstem ⊢
      have e02 := e01.trans e2
      have zs : stem.length ≤ sizeLine := small (by omega)
      refine ⟨_, rfl, _, rfl, _, _, rfl, ⟨zs, rfl⟩, _, 1, rfl, rfl, p, _, _, rfl, hp2, by omega, by omega, by omega, fun r1 H3 e3 hp3 r10 r1l => ?_⟩
      refine ⟨_, rfl, p, _, 26, rfl, hp3, by omega, by decide, by decide, fun r2 H4 e4 hp4 r20 r2l => ⟨sz2, fun t nt => ⟨t, _, rfl, tyT upd_same, rfl, _, _, rfl, _, _, rfl, rfl, ?_⟩⟩⟩
      have e04 := ((e02.trans e3).trans e4).new (o := .tup [.int r1, .int r2]) nt
      have hp5 := hp4.ex' (Ex.new (o := .tup [.int r1, .int r2]) nt)
      generalize (upd H4 t (.tup [.int r1, .int r2])) = H5 at e04 hp5 ⊢
      have r1s : r1 ≤ (stem.length : Int) := by omega
      have c1l := cutS_length stem none (some r1)
      have c2l := cutS_length stem (some r1) none
      refine ⟨_, rfl, (m : Int), rfl, by omega, by omega, fun F nF => lcV (walk_range (lo := 0) (n := (m : Int).toNat)) (by omega) (fun i => V.str (nameAt stem r1 r2 i)) nF (fun _ _ => trivial) (fun i x H6 H6' hi e y RT rt => ?_) (fun H6 e6 hF => ?_)⟩
      · obtain ⟨rfl, rfl⟩ := y
        have a0 := Int.emod_nonneg (r2 + 5 * (0 + (i : Int))) (show (26 : Int) ≠ 0 by decide)
        have a1 := Int.emod_lt_of_pos (r2 + 5 * (0 + (i : Int))) (show (0 : Int) < 26 by decide)
        refine ⟨rfl, _, rfl, _, rfl, r1, rfl, stem, rfl, zs, _, rfl, _, rfl, _, rfl, 5, _, rfl, rfl, .inl ⟨by decide, by decide⟩, r2, _, rfl, rfl, .inl ⟨_, rfl, _, 26, rfl, rfl, (by show (0 : Int) < 26; decide), _, _, _, rfl, rfl, small (by decide +kernel), small_at a0 a1, _, _, rfl, rfl, ?_, _, rfl, _, rfl, r1, rfl, stem, rfl, zs, _, _, rfl, rfl, ?_, rt _ (Evl.Ex.refl _)⟩⟩
        · exact small (by show _ + 1 ≤ 100000; omega)
        · refine small ?_
          rw [Str.length_append]
          show _ + 1 + _ ≤ 100000
          omega
      · rw [Int.toNat_natCast] at hF
        have hF' : H6 F = some (.lst (((List.range m).map fun i => (Sum.inr (nameAt stem r1 r2 i) : Key)).map kV)) := by
          rw [hF, List.map_map]
          rfl
        have lm : ((List.range m).map fun i => (Sum.inr (nameAt stem r1 r2 i) : Key)).length < 64 := by
          rw [List.length_map, List.length_range]
          omega
        refine ⟨_, rfl, F, _, rfl, tyL hF', lm, fun S nS => ?_⟩
        have e7 := e6.trans (Ex.new (o := SetKO w S ((List.range m).map fun i => (Sum.inr (nameAt stem r1 r2 i) : Key))) nS)
        have hmap : ((List.range m).map fun i => (Sum.inr (nameAt stem r1 r2 i) : Key)) = ((List.range m).map fun i => nameAt stem r1 r2 i).map Sum.inr := by
          rw [List.map_map]
          rfl
        refine ⟨S, _, rfl, upd_same, lm, .inl ⟨_, hmap, fun ns G nd mem srt hl nG => ?_⟩⟩
        have e8 := e7.trans (Ex.new (o := .lst (ns.map V.str)) nG)
        have hp8 := hp5.ex' e8
        rw [List.length_map, List.length_range] at hl
        refine q G ns _ ?_ (e04.trans (Exp.of e8)) (hp8.mono (by omega)) upd_same ⟨?_, by omega, fun x hx => ?_, asc_of_sorted srt nd⟩ hl
        · exact (fresh_exp (e04.trans (Exp.of e7)) (hp5.ex' e7) nG).1
        · have m0 : nameAt stem r1 r2 0 ∈ ns := (mem _).mpr (List.mem_map.mpr ⟨0, List.mem_range.mpr (by omega), rfl⟩)
          have m1 : nameAt stem r1 r2 1 ∈ ns := (mem _).mpr (List.mem_map.mpr ⟨1, List.mem_range.mpr (by omega), rfl⟩)
          have ne := name_ne (z := stem) (r1 := r1) r2 r10 r1s
          match ns, m0, m1 with
          | [], m0, _ => cases m0
          | [x], m0, m1 => exact absurd ((List.mem_singleton.mp m0).trans (List.mem_singleton.mp m1).symm) ne
          | x :: y :: r, _, _ => exact Nat.le_add_left 2 r.length
        · obtain ⟨i, _, rfl⟩ := List.mem_map.mp ((mem x).mp hx)
          exact name_ok r2 r10 r1s lstem cstem i
end
end QT
namespace QT
open PySem PySem.Spec PyProof.Rows L2 QS QR
open Evl (Ex)
theorem perm_of_map {α β : Type} {f : α → β} {ys zs : List β} (h : ys.Perm zs) : ∀ {ks : List α}, zs = ks.map f → ∃ ks' : List α, ks'.Perm ks ∧ ys = ks'.map f := by
  induction h with
  | nil =>
    intro ks e
    cases ks with
    | nil => exact ⟨[], .nil, rfl⟩
    | cons k ks => cases e
  | cons x _ ih =>
    intro ks e
    cases ks with
    | nil => cases e
    | cons k ks =>
      rw [List.map_cons] at e
      injection e with e1 e2
      obtain ⟨ks', p, q⟩ := ih e2
      exact ⟨k :: ks', .cons k p, by rw [List.map_cons, ← q, e1]⟩
  | swap x y l =>
    intro ks e
    match ks, e with
    | k1 :: k2 :: ks, e =>
      rw [List.map_cons, List.map_cons] at e
      injection e with e1 e2
      injection e2 with e2 e3
      exact ⟨k2 :: k1 :: ks, .swap _ _ _, by rw [List.map_cons, List.map_cons, e1, e2, e3]⟩
    | [], e => cases e
    | [_], e => cases e
  | trans _ _ ih1 ih2 =>
    intro ks e
    obtain ⟨ks2, p2, q2⟩ := ih2 e
    obtain ⟨ks1, p1, q1⟩ := ih1 q2
    exact ⟨ks1, p1.trans p2, q1⟩
/-! ### pairs of texts in the heap -/
abbrev Pr := Str × Str
def PrAt (H : Hp) (q : Addr) (r : Pr) : Prop := H q = some (.tup [.str r.1, .str r.2])
abbrev PrsAt (H : Hp) (qs : List Addr) (rs : List Pr) : Prop := Paired (PrAt H) qs rs
theorem PrsAt.mono {H H' : Hp} {qs : List Addr} {rs : List Pr} (h : PrsAt H qs rs) (k : ∀ a xs, H a = some (.tup xs) → H' a = some (.tup xs)) : PrsAt H' qs rs := Paired.mapP h fun q r z => k q _ z
theorem paired_zip {α β : Type} {F : α → β → Prop} : ∀ {xs : List α} {ys : List β}, Paired F xs ys → ∃ ks : List (α × β), xs = ks.map Prod.fst ∧ ys = ks.map Prod.snd ∧ ∀ k ∈ ks, F k.1 k.2
  | _, _, .nil => ⟨[], rfl, rfl, fun k hk => by cases hk⟩
  | _, _, .cons (a := x) (b := y) r t => by
    obtain ⟨ks, e1, e2, h⟩ := paired_zip t
    refine ⟨(x, y) :: ks, by rw [e1]; rfl, by rw [e2]; rfl, fun k hk => ?_⟩
    rcases List.mem_cons.mp hk with z | z
    · rw [z]; exact r
    · exact h k z
theorem paired_of {α β : Type} {F : α → β → Prop} : ∀ {ks : List (α × β)}, (∀ k ∈ ks, F k.1 k.2) → Paired F (ks.map Prod.fst) (ks.map Prod.snd)
  | [], _ => .nil
  | k :: ks, h => .cons (h k List.mem_cons_self) (paired_of fun j hj => h j (List.mem_cons_of_mem _ hj))
/-- a turned list of refs -/
theorem paired_perm {β : Type} {F : Addr → β → Prop} {qs : List Addr} {rs : List β} {ys : List V} (h : Paired F qs rs) (p : ys.Perm (qs.map V.ref)) : ∃ (qs' : List Addr) (rs' : List β), ys = qs'.map V.ref ∧ Paired F qs' rs' ∧ rs'.Perm rs := by
  obtain ⟨ks, e1, e2, hk⟩ := paired_zip h
  rw [e1, List.map_map] at p
  obtain ⟨ks', p', e⟩ := perm_of_map p rfl
  refine ⟨ks'.map Prod.fst, ks'.map Prod.snd, by rw [e, List.map_map], paired_of fun k hk' => hk k (p'.mem_iff.mp hk'), ?_⟩
  rw [e2]
  exact p'.map _
theorem paired_append {α β : Type} {F : α → β → Prop} : ∀ {xs xs' : List α} {ys ys' : List β}, Paired F xs ys → Paired F xs' ys' → Paired F (xs ++ xs') (ys ++ ys')
  | _, _, _, _, .nil, h => h
  | _, _, _, _, .cons a b, h => .cons a (paired_append b h)
theorem paired_take {α β : Type} {F : α → β → Prop} : ∀ (n : Nat) {xs : List α} {ys : List β}, Paired F xs ys → Paired F (xs.take n) (ys.take n)
  | 0, _, _, _ => by rw [List.take_zero, List.take_zero]; exact .nil
  | n + 1, _, _, .nil => by rw [List.take_nil, List.take_nil]; exact .nil
  | n + 1, _, _, .cons a b => by rw [List.take_succ_cons, List.take_succ_cons]; exact .cons a (paired_take n b)
abbrev prD (r : Pr) : PyData := .tuple [.str r.1, .str r.2]
theorem dp_prs {K : PySem.W.Frag} {H : Hp} : ∀ {qs : List Addr} {rs : List Pr}, PrsAt H qs rs → DpAll K H (qs.map V.ref) (rs.map prD)
  | _, _, .nil => .nil
  | _, _, .cons a b => .cons (.tup (tyT a) (.cons (.str _) (.cons (.str _) .nil))) (dp_prs b)
theorem lay_prs : ∀ {rs : List Pr}, (∀ r ∈ rs, OkP r.1 r.2) → PyData.canLayAll0 (rs.map prD) = true
  | [], _ => rfl
  | r :: rs, h => by
    have h1 := h r List.mem_cons_self
    show (PyData.canLay0 (prD r) && PyData.canLayAll0 (rs.map prD)) = true
    rw [lay_prs fun x hx => h x (List.mem_cons_of_mem _ hx)]
    simp [PyData.canLay0, PyData.canLayAll0, h1.1, h1.2]
theorem deep_prs : ∀ rs : List Pr, PyData.depthAll (rs.map prD) ≤ 3
  | [] => by simp [PyData.depthAll]
  | r :: rs => by
    have := deep_prs rs
    simp only [List.map_cons, PyData.depthAll, PyData.depth]
    omega
theorem sh_prs {rs : List Pr} (h : ∀ r ∈ rs, OkP r.1 r.2) : SeqAt.shaped (.list (rs.map prD)) = true := by
  unfold SeqAt.shaped
  rw [Bool.and_eq_true]
  refine ⟨lay_prs h, decide_eq_true ?_⟩
  have := deep_prs rs
  simp only [PyData.depth]
  omega
theorem eqv_prD (r s : Pr) : PyData.eqv (prD r) (prD s) = decide (r = s) := by
  have h : PyData.eqv (prD r) (prD s) = (r.1 == s.1 && r.2 == s.2) := by simp [PyData.eqv, PyData.eqvAll]
  rw [h, Bool.eq_iff_iff, Bool.and_eq_true, beq_iff_eq, beq_iff_eq, decide_eq_true_eq]
  exact ⟨fun ⟨a, b⟩ => Prod.ext a b, fun e => by rw [e]; exact ⟨rfl, rfl⟩⟩
theorem any_prs (rs : List Pr) (r : Pr) : ((rs.map prD).any fun z => PyData.eqv z (prD r)) = decide (r ∈ rs) := by
  rw [Bool.eq_iff_iff, List.any_eq_true, decide_eq_true_eq]
  constructor
  · rintro ⟨z, hz, e⟩
    obtain ⟨s, hs, rfl⟩ := List.mem_map.mp hz
    rw [eqv_prD, decide_eq_true_eq] at e
    rw [← e]
    exact hs
  · intro h
    exact ⟨prD r, List.mem_map.mpr ⟨r, h, rfl⟩, by rw [eqv_prD]; exact decide_eq_true rfl⟩
theorem cut_take (xs : List V) (k : Nat) : cutV xs none (some (k : Int)) = xs.take k := by
  unfold cutV
  rw [HT.sIx_nat, HT.sIx_none, Nat.sub_zero, List.drop_zero]
  rcases Nat.lt_or_ge k xs.length with h | h
  · rw [Nat.min_eq_left (Nat.le_of_lt h)]
  · rw [Nat.min_eq_right h, List.take_of_length_le h, List.take_of_length_le (Nat.le_refl _)]
theorem cut_drop (xs : List V) (k : Nat) : cutV xs (some (k : Int)) none = xs.drop k := by
  unfold cutV
  rw [HT.sIx_nat, HT.sIx_none]
  rcases Nat.lt_or_ge k xs.length with h | h
  · rw [Nat.min_eq_left (Nat.le_of_lt h), List.take_of_length_le (by rw [List.length_drop]; exact Nat.le_refl _)]
  · rw [Nat.min_eq_right h, Nat.sub_self, List.take_zero, List.drop_eq_nil_of_le h]
/-! ### the pairs of a world -/
structure PairsOk (ns : List Str) (rs : List Pr) : Prop where
  each : ∀ r ∈ rs, r.1 ∈ ns ∧ r.2 ∈ ns ∧ slt r.1 r.2
  nd : rs.Nodup
/-- what the walk along the order has found -/
structure FoundOk (os : List Str) (k : Nat) (rs : List Pr) : Prop where
  each : ∀ r ∈ rs, slt r.1 r.2 ∧ r.1 ∈ os.take k ∧ r.2 ∈ os.take k
  nd : rs.Nodup
  few : rs.length + 1 ≤ k
theorem take_up {α : Type} {os : List α} {k : Nat} {x : α} (h : x ∈ os.take k) : x ∈ os.take (k + 1) := by
  rw [List.take_succ]
  exact List.mem_append.mpr (.inl h)
theorem FoundOk.up {os : List Str} {k : Nat} {rs : List Pr} (h : FoundOk os k rs) : FoundOk os (k + 1) rs :=
  ⟨fun r hr => ⟨(h.each r hr).1, take_up (h.each r hr).2.1, take_up (h.each r hr).2.2⟩, h.nd, Nat.le_succ_of_le h.few⟩
theorem FoundOk.add {os : List Str} {k : Nat} {rs : List Pr} (h : FoundOk os k rs) (nd : os.Nodup) {x y : Str} (hx : os[k]? = some x) (hy : y ∈ os.take k) {r : Pr} (hr : r = (x, y) ∧ slt x y ∨ r = (y, x) ∧ ¬ slt x y) : FoundOk os (k + 1) (rs ++ [r]) := by
  have xn : x ∉ os.take k := fun hm => by
    obtain ⟨j, hj, e⟩ := List.getElem_of_mem hm
    rw [List.getElem_take] at e
    rw [List.length_take] at hj
    obtain ⟨hk, ek⟩ := List.getElem?_eq_some_iff.mp hx
    have := List.pairwise_iff_getElem.mp nd j k (by omega) hk (by omega)
    exact this (e.trans ek.symm)
  have xu : x ∈ os.take (k + 1) := by
    rw [List.take_succ, hx]
    exact List.mem_append.mpr (.inr (List.mem_singleton.mpr rfl))
  have ne : x ≠ y := fun e => xn (by rw [e]; exact hy)
  refine ⟨fun s hs => ?_, List.nodup_append.mpr ⟨h.nd, List.pairwise_singleton _ _, fun a ha b hb e => ?_⟩, by rw [List.length_append]; exact Nat.succ_le_succ h.few⟩
  · rcases List.mem_append.mp hs with hs | hs
    · exact h.up.each s hs
    · rw [List.mem_singleton.mp hs]
      rcases hr with ⟨e, hl⟩ | ⟨e, hl⟩
      · rw [e]; exact ⟨hl, xu, take_up hy⟩
      · rw [e]
        refine ⟨?_, take_up hy, xu⟩
        rcases slt_tri x y with z | z | z
        · exact absurd z hl
        · exact absurd z ne
        · exact z
  · have hb' := List.mem_singleton.mp hb
    have ha' := h.each a ha
    rw [e, hb'] at ha'
    rcases hr with ⟨e2, _⟩ | ⟨e2, _⟩
    · rw [e2] at ha'; exact xn ha'.2.1
    · rw [e2] at ha'; exact xn ha'.2.2
/-- the pairs that are left -/
structure RestOk (ns : List Str) (fs : List Pr) (i : Nat) (rs : List Pr) : Prop where
  each : ∀ r ∈ rs, r.1 ∈ ns.take i ∧ r.2 ∈ ns ∧ slt r.1 r.2 ∧ r ∉ fs
  nd : rs.Nodup
  few : rs.length ≤ i * 7
noncomputable def leftOf (fs : List Pr) (a : Str) (bs : List Str) : List Pr := (bs.filter fun b => !decide ((a, b) ∈ fs)).map fun b => (a, b)
theorem RestOk.add {ns : List Str} {fs : List Pr} {i : Nat} {rs : List Pr} (h : RestOk ns fs i rs) (nk : NamesOk ns) (n7 : ns.length ≤ 7) {a : Str} (ha : ns[i]? = some a) : RestOk ns fs (i + 1) (rs ++ leftOf fs a (ns.drop (i + 1))) := by
  have au : a ∈ ns.take (i + 1) := by
    rw [List.take_succ, ha]
    exact List.mem_append.mpr (.inr (List.mem_singleton.mpr rfl))
  obtain ⟨hi, ea⟩ := List.getElem?_eq_some_iff.mp ha
  have an : a ∉ ns.take i := fun hm => by
    obtain ⟨j, hj, e⟩ := List.getElem_of_mem hm
    rw [List.getElem_take] at e
    rw [List.length_take] at hj
    have := List.pairwise_iff_getElem.mp nk.asc j i (by omega) hi (by omega)
    rw [e, ea] at this
    exact slt_irrefl _ this
  have lt : ∀ b ∈ ns.drop (i + 1), slt a b := fun b hb => by
    obtain ⟨j, hj, e⟩ := List.getElem_of_mem hb
    rw [List.getElem_drop] at e
    rw [List.length_drop] at hj
    have := List.pairwise_iff_getElem.mp nk.asc i (i + 1 + j) hi (by omega) (by omega)
    rw [e, ea] at this
    exact this
  have mem : ∀ r, r ∈ leftOf fs a (ns.drop (i + 1)) → r.1 = a ∧ r.2 ∈ ns.drop (i + 1) ∧ r ∉ fs := fun r hr => by
    obtain ⟨b, hb, e⟩ := List.mem_map.mp hr
    obtain ⟨h1, h2⟩ := List.mem_filter.mp hb
    rw [Bool.not_eq_true', decide_eq_false_iff_not] at h2
    rw [← e]
    exact ⟨rfl, h1, h2⟩
  refine ⟨fun r hr => ?_, List.nodup_append.mpr ⟨h.nd, ?_, fun r hr s hs e => ?_⟩, ?_⟩
  · rcases List.mem_append.mp hr with hr | hr
    · obtain ⟨h1, h2⟩ := h.each r hr
      exact ⟨take_up h1, h2⟩
    · obtain ⟨h1, h2, h3⟩ := mem r hr
      exact ⟨by rw [h1]; exact au, List.mem_of_mem_drop h2, by rw [h1]; exact lt _ h2, h3⟩
  · refine List.pairwise_map.mpr ?_
    have nd : (ns.drop (i + 1)).Nodup := nk.nodup.sublist (List.drop_sublist _ _)
    exact (nd.sublist List.filter_sublist).imp fun {x y} ne e => ne (Prod.mk.inj e).2
  · obtain ⟨h1, _⟩ := h.each r hr
    obtain ⟨h2, _⟩ := mem s hs
    rw [e, h2] at h1
    exact an h1
  · rw [List.length_append]
    have := h.few
    have h3 : (leftOf fs a (ns.drop (i + 1))).length ≤ 7 := by
      unfold leftOf
      rw [List.length_map]
      refine Nat.le_trans (List.length_filter_le _ _) ?_
      rw [List.length_drop]
      omega
    omega
section
variable {P : Program} {w : World} {K : PySem.W.Frag} {mg : Str → Option Value} {base : Heap}
/-- is_joined or take(pot, 2) == 1 -/
theorem or_take {σ : L2.St} {H : Hp} {D : Ends} {tu : TS} {i0 i5 : Nat} {p : Addr} {c : Nat} {jb : Bool} (h0 : σ[i0]? = some (some (.ref p))) (h5 : σ[i5]? = some (some (.bl jb))) (hp : PotAt H p c) (hc : c ≤ 1000000)
    (yes : ∀ H', Exp p H H' → PotAt H' p (c + 1) → tu D σ H') (no : ∀ H', Exp p H H' → PotAt H' p (c + 1) → D.nx σ H') :
    tIfS (tOr (tB (tVar i5)) (tTest (tOp rEq (tCall sp_l_take [] E0 (tCons (tVar i0) (tCons (tC (.int 2)) tNil))) (tC (.int 1))))) tu tNext D σ H := by
  refine ⟨_, h5, jb, rfl, ?_⟩
  cases jb with
  | true => exact iteT (iteT (yes H (Exp.refl p H) (hp.mono (Nat.le_succ c))))
  | false =>
    refine iteF ⟨_, h0, p, c, 2, rfl, hp, hc, by decide, by decide, fun r H1 e1 hp1 _ _ => ⟨rfl, _, rfl, ?_⟩⟩
    show if decide (V.int r = V.int 1) = true then _ else _
    cases decide (V.int r = V.int 1) with
    | true => exact iteT (yes H1 e1 hp1)
    | false => exact iteF (no H1 e1 hp1)
def sp_l_pairs : Sp := fun vs H Q _ => ∃ (p R : Addr) (c : Nat) (ns : List Str) (m : Int), vs = [.ref p, .ref R, .int m] ∧ PotAt H p c ∧ c ≤ 900000 ∧ H R = some (.tup (ns.map V.str)) ∧ NamesOk ns ∧ ns.length ≤ 7 ∧ m ≤ 16 ∧
  ∀ q qs rs H', H q = none → Exp p H H' → PotAt H' p (c + 30) → H' q = some (.lst (qs.map V.ref)) → PrsAt H' qs rs → PairsOk ns rs → rs.length ≤ 16 → Q (.ref q) H'
theorem ok_l_pairs (T : TX K mg) : FnOk P w K mg base CX0 3 T.l_pairs.f T.l_pairs.d ["_law_pot_here", "_law_routers", "_law_many"] sp_l_pairs := by
  have G1 : FnOk P w K mg base CX0 1 T.l_take.f T.l_take.d ["_law_pot_here", "_law_upto"] sp_l_take := ok_l_take T
  have G2 : FnOk P w K mg base CX0 2 T.l_turned.f T.l_turned.d ["_law_pot_here", "_law_some"] (sp_l_turned K) := ok_l_turned T
  refine T.l_pairs.F.ok sc_l_pairs (fun vs H Q E h => ?_) (fun cdv A outer s H vs Q E hr h => ?_)
  · obtain ⟨p, R, c, ns, m, rfl, _⟩ := h
    rfl
  · obtain ⟨p, R, c, ns, m, rfl, hp, c9, hR, nk, n7, m16, q⟩ := h
    have hu := hr.units
    have hu65 : (A.deeper (envOfC "_law_pairs" (defScope s_l_pairs) s.heap.objs.size T.l_pairs.f cdv)).units + 65 < cLine := by have := hr.un; omega
    refine ⟨_, pss_cons (ps_asg (pe_tup (pa_cons (T.l_turned.call G2 hr (pa_cons (pv 0) (pa_cons (pe_callTy call_list_of (by rfl) T.n_list boot_list' (pa_cons (pv 1) pa_nil)) pa_nil))) (pa_cons (pe_lst pa_nil) pa_nil))) (pg_tup rfl (pgs_cons (pg_name (i := 3) sc_l_pairs.nd rfl (.inl rfl)) (pgs_cons (pg_name (i := 4) sc_l_pairs.nd rfl (.inr rfl)) pgs_nil))))
      (pss_cons (ps_set (i := 5) sc_l_pairs.nd rfl (.inl rfl) (pe_cmpR op_gt (T.l_take.call G1 (hr.mono (by decide)) (pa_cons (pv 0) (pa_cons pe_int pa_nil))) pe_int (nomark _)))
      (pss_cons (ps_for PassesOwn.never rfl (pi_range2 (by rfl) T.n_range (pa_cons pe_int (pa_cons (pe_callB call_len_seq (by rfl) T.n_len PySem.boot_len (pa_cons (pv 3) pa_nil)) pa_nil))) (pg_name (i := 6) sc_l_pairs.nd rfl (.inl rfl))
        (pss_one (ps_if (PW.pt (pw_or (pt_val (pv 5)) (pw_or1 (pt_cmpR op_eq (T.l_take.call G1 (hr.mono (by decide)) (pa_cons (pv 0) (pa_cons pe_int pa_nil))) pe_int (nomark _)))))
          (pss_cons (ps_set (i := 7) sc_l_pairs.nd rfl (.inl rfl) (pe_ix ix_list (pv 3) (pe_op op_sub (pe_op op_sub (pv 6) pe_int) (T.l_take.call G1 (hr.mono (by decide)) (pa_cons (pv 0) (pa_cons (pe_callB (call_min2 rfl) (by rfl) T.n_min boot_min' (pa_cons (pv 6) (pa_cons pe_int pa_nil))) pa_nil)))) (fun _ _ => rfl)))
          (pss_one (ps_expr (pe_bm PySem.F.plainAttrs_list PySem.F.slot_list_append PySem.F.type_list_append mt_append (pv 4) (pa_cons (pe_ifExp (pt_cmpR op_lt_str (pe_ix ix_list (pv 3) (pv 6) (fun _ _ => rfl)) (pv 7) (nomark _)) (pe_tup (pa_cons (pe_ix ix_list (pv 3) (pv 6) (fun _ _ => rfl)) (pa_cons (pv 7) pa_nil))) (pe_tup (pa_cons (pv 7) (pa_cons (pe_ix ix_list (pv 3) (pv 6) (fun _ _ => rfl)) pa_nil)))) pa_nil))))) pss_nil)))
      (pss_cons (ps_set (i := 8) sc_l_pairs.nd rfl (.inl rfl) (pe_lst pa_nil))
      (pss_cons (ps_for PassesOwn.never rfl (pi_enumT (by rfl) T.n_enumerate (pa_cons (pv 1) pa_nil)) (pg_tup rfl (pgs_cons (pg_name (i := 6) sc_l_pairs.nd rfl (.inl rfl)) (pgs_cons (pg_name (i := 9) sc_l_pairs.nd rfl (.inr rfl)) pgs_nil)))
        (pss_one (ps_expr (pe_bm PySem.F.plainAttrs_list PySem.F.slot_list_extend PySem.F.type_list_extend mt_extend (pv 8) (pa_cons (pe_lc (own := [("_law_b", 10)]) (g := gName 10) (tt := tTest (tOp (rNotInD K) (tTup (tCons (tVar 9) (tCons (tVar 10) tNil))) (tVar 4))) (te := tTup (tCons (tVar 9) (tCons (tVar 10) tNil))) rfl sc_l_pairs.nd (pi_tup (pe_slice sl_tup (pv 1) (po_some (pe_op op_add (pv 6) pe_int)) po_none)) (blkOk_by (own := [("_law_b", 10)]) (N := N_l_pairs) (sc := defScope s_l_pairs) (by decide +kernel))
            (fun _ _ _ _ _ => pg_name (i := 10) sc_l_pairs.nd rfl (.inl rfl)) (fun _ _ _ _ _ => pts_one (pt_cmpR (op_notInD (by exact hu65)) (pe_tup (pa_cons (pv 9) (pa_cons (pv 10) pa_nil))) (pv 4) (by rfl))) (fun _ _ _ _ _ => pe_tup (pa_cons (pv 9) (pa_cons (pv 10) pa_nil)))) pa_nil)))))
      (pss_one (ps_ret (pe_ifExp (pt_cmpR (op_neD hu) (pv 8) (pe_lst pa_nil) (nomark _)) (pe_op op_cat (pv 4) (pe_slice sl_list (T.l_turned.call G2 hr (pa_cons (pv 0) (pa_cons (pv 8) pa_nil))) po_none (po_some (pe_callB (call_max2 rfl) (by rfl) T.n_max boot_max' (pa_cons pe_int (pa_cons (pe_op op_sub (pe_callTy call_int1 (by rfl) T.n_int boot_int' (pa_cons (pv 2) pa_nil)) (pe_callB call_len_seq (by rfl) T.n_len PySem.boot_len (pa_cons (pv 4) pa_nil))) pa_nil)))))) (pv 4)))))))), ?_⟩
    have n2 := nk.least
    refine ⟨_, rfl, _, rfl, R, _, rfl, .inr (tyT hR), fun L nL => ?_⟩
    have e0 : Ex H (upd H L (.lst (ns.map V.str))) := Ex.new nL
    have Lp := (fresh_exp (Exp.refl p H) hp nL).2
    refine ⟨p, L, c, _, rfl, hp.ex' e0, by omega, Lp, tyL upd_same, by rw [List.length_map]; omega, by rw [List.length_map]; omega, fun O ys H1 nO e1 hp1 hO pm => ?_⟩
    have e01 := (Exp.of (p := p) e0).trans e1
    obtain ⟨os, po, rfl⟩ := perm_of_map pm rfl
    have hOp : O ≠ p := (fresh_exp (Exp.refl p _) (hp.ex' e0) nO).2
    refine ⟨sz0, fun F nF => ⟨sz2, fun t nt => ⟨t, _, rfl, tyT upd_same, rfl, _, _, rfl, _, _, rfl, rfl, ?_⟩⟩⟩
    have x1 : Ex H1 (upd H1 F (.lst [])) := Ex.new nF
    have x2 := ex_upd (o := .tup [.ref O, .ref F]) x1 (Evl.fresh_back x1 nt)
    obtain ⟨nF0, hFp⟩ := fresh_exp e01 hp1 nF
    have hF2 : (upd (upd H1 F (.lst [])) t (.tup [.ref O, .ref F])) F = some (.lst (([] : List Addr).map V.ref)) := by
      rw [upd_ne (ne_of_none (upd_same : (upd H1 F (.lst [])) F = _) nt)]
      exact upd_same
    have hOF : O ≠ F := ne_of_none hO nF
    have hO2 := x2 _ _ hO
    have hp2 := hp1.ex' x2
    have e2 := e01.trans (Exp.of x2)
    generalize (upd (upd H1 F (.lst [])) t (.tup [.ref O, .ref F])) = H2 at hF2 hO2 hp2 e2 ⊢
    refine ⟨_, rfl, p, c + 2, 8, rfl, hp2, by omega, by decide, by decide, fun r0 H3 e3 hp3 _ _ => ⟨_, 0, rfl, rfl, ?_⟩⟩
    have hO3 := e3 _ _ hOp hO2
    have hF3 := e3 _ _ hFp hF2
    have e03 := e2.trans e3
    have lo : os.length = ns.length := po.length_eq
    have ondp : os.Nodup := (po.nodup_iff).mpr nk.nodup
    refine ⟨_, rfl, O, _, rfl, .inl (tyL hO3), 1, _, rfl, ⟨by decide, by decide, by rw [List.length_map]; omega, by rw [List.length_map]; omega⟩, for_range (lo := 1) (n := (((os.map V.str).length : Int) - 1).toNat) (fun i σ H' => Exp p H H' ∧ PotAt H' p (c + 3 + 2 * i) ∧ H' O = some (.lst (os.map V.str)) ∧ (∃ qs prs, H' F = some (.lst (qs.map V.ref)) ∧ PrsAt H' qs prs ∧ FoundOk os (1 + i) prs) ∧ ∃ a b, σ = [some (.ref p), some (.ref R), some (.int m), some (.ref O), some (.ref F), some (.bl (decide (0 < r0))), a, b, none, none, none]) ?_ (fun i σ H4 hi pv => ?_) (fun σ H4 pv => ?_)⟩
    · exact ⟨e03, hp3, hO3, ⟨[], [], hF3, .nil, fun r hr => (by cases hr), .nil, Nat.le_refl _⟩, _, _, rfl⟩
    · obtain ⟨e4, hp4, hO4, ⟨qs, prs, hF4, hq4, fo⟩, a, b, rfl⟩ := pv
      rw [List.length_map] at hi
      have hi' : 1 + i < os.length := by omega
      refine or_take (p := p) (c := c + 3 + 2 * i) (jb := decide (0 < r0)) rfl rfl hp4 (by omega) (fun H5 e5 hp5 => ?_) (fun H5 e5 hp5 => ?_)
      · have hO5 := e5 _ _ hOp hO4
        have mn : 0 < (if (2 : Int) < 1 + (i : Int) then (2 : Int) else 1 + (i : Int)) ∧ (if (2 : Int) < 1 + (i : Int) then (2 : Int) else 1 + (i : Int)) ≤ 1 + (i : Int) ∧ (if (2 : Int) < 1 + (i : Int) then (2 : Int) else 1 + (i : Int)) ≤ 2 := by split <;> omega
        refine ⟨_, rfl, _, rfl, _, 1, rfl, rfl, _, rfl, _, rfl, _, 2, rfl, p, _, _, rfl, hp5, by omega, mn.1, Int.le_trans mn.2.2 (by decide), fun r H6 e6 hp6 r0 rl => ?_⟩
        have hO6 := e6 _ _ hOp hO5
        obtain ⟨k, hk⟩ : ∃ k : Nat, 1 + (i : Int) - 1 - r = (k : Int) := ⟨(1 + (i : Int) - 1 - r).toNat, by omega⟩
        have hk1 : k < 1 + i := by omega
        have hk2 : k < os.length := by omega
        have hat : atI (os.map V.str) (1 + (i : Int) - 1 - r) = some (.str os[k]) := by
          rw [hk]
          refine atI_nat ?_
          rw [List.getElem?_map, List.getElem?_eq_getElem hk2]
          rfl
        have hx : os[1 + i]? = some os[1 + i] := List.getElem?_eq_getElem hi'
        have hax : atI (os.map V.str) (1 + (i : Int)) = some (.str os[1 + i]) := by
          have : (1 + (i : Int)) = ((1 + i : Nat) : Int) := by omega
          rw [this]
          refine atI_nat ?_
          rw [List.getElem?_map, hx]
          rfl
        have hy : os[k] ∈ os.take (1 + i) := by
          rw [List.mem_take_iff_getElem]
          exact ⟨k, by omega, rfl⟩
        have hF6 := e6 _ _ hFp (e5 _ _ hFp hF4)
        have e06 := (e4.trans e5).trans e6
        have e46 := e5.trans e6
        obtain ⟨pz, hpz⟩ := hp4.lst
        have hq6 : PrsAt H6 qs prs := hq4.mono fun a xs z => e46.tup hpz z
        have lq : qs.length = prs.length := paired_len hq6
        have pl := fo.few
        have szq : (qs.map V.ref).length < sizeLine := smallT (by rw [List.length_map]; omega)
        refine ⟨_, _, rfl, rfl, O, _, _, _, rfl, rfl, tyL hO6, hat, ?_⟩
        refine ⟨_, rfl, .inl ⟨rfl, _, tyL hF6⟩, _, rfl, _, rfl, O, _, _, _, rfl, rfl, tyL hO6, hax, _, rfl, _, _, rfl, rfl, _, rfl, ?_⟩
        -- behind the append
        have fin : ∀ (rr : Pr) (T : Addr), H6 T = none → FoundOk os (1 + (i + 1)) (prs ++ [rr]) → Exp p H (upd (upd H6 T (.tup [.str rr.1, .str rr.2])) F (.lst (qs.map V.ref ++ [.ref T]))) ∧ PotAt (upd (upd H6 T (.tup [.str rr.1, .str rr.2])) F (.lst (qs.map V.ref ++ [.ref T]))) p (c + 3 + 2 * (i + 1)) ∧ (upd (upd H6 T (.tup [.str rr.1, .str rr.2])) F (.lst (qs.map V.ref ++ [.ref T]))) O = some (.lst (os.map V.str)) ∧
            ∃ qs2 prs2, (upd (upd H6 T (.tup [.str rr.1, .str rr.2])) F (.lst (qs.map V.ref ++ [.ref T]))) F = some (.lst (qs2.map V.ref)) ∧ PrsAt (upd (upd H6 T (.tup [.str rr.1, .str rr.2])) F (.lst (qs.map V.ref ++ [.ref T]))) qs2 prs2 ∧ FoundOk os (1 + (i + 1)) prs2 := fun rr T nT hfo => by
          have k6 : ∀ a xs, H6 a = some (.tup xs) → (upd (upd H6 T (.tup [.str rr.1, .str rr.2])) F (.lst (qs.map V.ref ++ [.ref T]))) a = some (.tup xs) := fun a xs z => by
            rw [upd_ne (ne_of z hF6 (by intro z; cases z)), upd_ne (ne_of_none z nT)]
            exact z
          have TF : T ≠ F := fun z => by rw [z, hF6] at nT; cases nT
          refine ⟨fun a o na ha => ?_, ?_, ?_, qs ++ [T], prs ++ [rr], by rw [upd_same, List.map_append]; rfl, paired_snoc (hq6.mono k6) ?_, hfo⟩
          · have h6 := e06 _ _ na ha
            rw [upd_ne (ne_of_none ha nF0), upd_ne (ne_of_none h6 nT)]
            exact h6
          · obtain ⟨x, y, z, g1, g2⟩ := hp6.mono (show c + 3 + 2 * i + 1 + 1 ≤ c + 3 + 2 * (i + 1) by omega)
            exact ⟨x, y, z, by rw [upd_ne (Ne.symm hFp), upd_ne (ne_of_none g1 nT)]; exact g1, g2⟩
          · rw [upd_ne hOF, upd_ne (ne_of_none hO6 nT)]
            exact hO6
          · show (upd (upd H6 T (.tup [.str rr.1, .str rr.2])) F (.lst (qs.map V.ref ++ [.ref T]))) T = some (.tup [.str rr.1, .str rr.2])
            rw [upd_ne TF]
            exact upd_same
        by_cases cl : os[1 + i].cps.toList < os[k].cps.toList
        · rw [decide_eq_true cl]
          refine iteT ⟨_, rfl, _, rfl, O, _, _, _, rfl, rfl, tyL hO6, hax, _, rfl, sz2, fun T nT => ?_⟩
          obtain ⟨f1, f2, f3, f4⟩ := fin (os[1 + i], os[k]) T nT (fo.add ondp hx hy (.inl ⟨rfl, cl⟩))
          refine ⟨F, _, _, rfl, rfl, ?_, szq, f1, f2, f3, f4, _, _, rfl⟩
          rw [upd_ne (ne_of_none hF6 nT)]
          exact hF6
        · rw [decide_eq_false cl]
          refine iteF ⟨_, rfl, _, rfl, _, rfl, O, _, _, _, rfl, rfl, tyL hO6, hax, sz2, fun T nT => ?_⟩
          obtain ⟨f1, f2, f3, f4⟩ := fin (os[k], os[1 + i]) T nT (fo.add ondp hx hy (.inr ⟨rfl, cl⟩))
          refine ⟨F, _, _, rfl, rfl, ?_, szq, f1, f2, f3, f4, _, _, rfl⟩
          rw [upd_ne (ne_of_none hF6 nT)]
          exact hF6
      · obtain ⟨pz, hpz⟩ := hp4.lst
        exact ⟨e4.trans e5, hp5.mono (by omega), e5 _ _ hOp hO4, ⟨qs, prs, e5 _ _ hFp hF4, hq4.mono fun a xs z => e5.tup hpz z, fo.up⟩, _, _, rfl⟩
    · obtain ⟨e4, hp4, hO4, ⟨qs, prs, hF4, hq4, fo⟩, a, b, rfl⟩ := pv
      rw [List.length_map] at hp4 fo
      have pl := fo.few
      have lq : qs.length = prs.length := paired_len hq4
      have hp4 : PotAt H4 p (c + 15) := hp4.mono (by omega)
      have mo : ∀ x ∈ os, x ∈ ns := fun x hx => po.mem_iff.mp hx
      have okf : ∀ r ∈ prs, OkP r.1 r.2 := fun r hr => nk.okP (mo _ (List.mem_of_mem_take (fo.each r hr).2.1)) (mo _ (List.mem_of_mem_take (fo.each r hr).2.2))
      have pf : PairsOk ns prs := ⟨fun r hr => ⟨mo _ (List.mem_of_mem_take (fo.each r hr).2.1), mo _ (List.mem_of_mem_take (fo.each r hr).2.2), (fo.each r hr).1⟩, fo.nd⟩
      refine ⟨sz0, fun S nS => ?_⟩
      obtain ⟨nS0, hSp⟩ := fresh_exp e4 hp4 nS
      have hFS : F ≠ S := ne_of_none hF4 nS
      have x4 : Ex H4 (upd H4 S (.lst [])) := Ex.new nS
      have hS5 : (upd H4 S (.lst [])) S = some (.lst (([] : List Addr).map V.ref)) := upd_same
      have hF5 := x4 _ _ hF4
      have hp5 := hp4.ex' x4
      have e5 := e4.trans (Exp.of x4)
      have hq5 : PrsAt (upd H4 S (.lst [])) qs prs := hq4.mono fun a xs z => x4 _ _ z
      generalize (upd H4 S (.lst [])) = H5 at hS5 hF5 hp5 e5 hq5 ⊢
      obtain ⟨pz, hpz⟩ := hp.lst
      have hR5 : H5 R = some (.tup (ns.map V.str)) := e5.tup hpz hR
      refine ⟨_, rfl, R, _, rfl, tyT hR5, for_it walk_enumT (fun i σ H' => Exp p H H' ∧ PotAt H' p (c + 15) ∧ H' F = some (.lst (qs.map V.ref)) ∧ PrsAt H' qs prs ∧ (∃ ss rs, H' S = some (.lst (ss.map V.ref)) ∧ PrsAt H' ss rs ∧ RestOk ns prs i rs) ∧ ∃ a b a9, σ = [some (.ref p), some (.ref R), some (.int m), some (.ref O), some (.ref F), some (.bl (decide (0 < r0))), a, b, some (.ref S), a9, none]) ?_ (fun i σ H' _ pv => tyT (pv.1.tup hpz hR)) (fun i x σ H6 H6' hi pv y => ?_) (fun σ H6 pv => ?_)⟩
      · exact ⟨e5, hp5, hF5, hq5, ⟨[], [], hS5, .nil, fun r hr => (by cases hr), .nil, Nat.zero_le _⟩, _, _, _, rfl⟩
      · obtain ⟨e6, hp6, hF6, hq6, ⟨ss, rs, hS6, hr6, ro⟩, a6, b6, a9, rfl⟩ := pv
        rw [List.length_map] at hi
        obtain ⟨Te, x1, x2, rfl, nT, rfl, y1, y2⟩ := y
        obtain rfl : V.int (i : Nat) = x1 := Option.some.inj y1
        obtain ⟨a, ha⟩ : ∃ a, ns[i]? = some a := ⟨_, List.getElem?_eq_getElem hi⟩
        have y2 : (ns.map V.str)[i]? = some x2 := y2
        rw [List.getElem?_map, ha] at y2
        obtain rfl : V.str a = x2 := Option.some.inj y2
        have x6 : Ex H6 (upd H6 Te (.tup [.int (i : Nat), .str a])) := Ex.new nT
        have hT : (upd H6 Te (.tup [.int (i : Nat), .str a])) Te = some (.tup [.int (i : Nat), .str a]) := upd_same
        have hR7 := x6 _ _ (e6.tup hpz hR)
        have hS7 := x6 _ _ hS6
        have hF7 := x6 _ _ hF6
        have hp7 := hp6.ex' x6
        have e7 := e6.trans (Exp.of x6)
        have hq7 : PrsAt (upd H6 Te (.tup [.int (i : Nat), .str a])) qs prs := hq6.mono fun a xs z => x6 _ _ z
        have hr7 : PrsAt (upd H6 Te (.tup [.int (i : Nat), .str a])) ss rs := hr6.mono fun a xs z => x6 _ _ z
        generalize (upd H6 Te (.tup [.int (i : Nat), .str a])) = H7 at hT hR7 hS7 hF7 hp7 e7 hq7 hr7 ⊢
        have am := List.mem_of_getElem? ha
        refine ⟨Te, _, rfl, tyT hT, rfl, _, _, rfl, _, _, rfl, rfl, ?_⟩
        have cutR : cutV (ns.map V.str) (some ((i : Int) + 1)) none = (ns.drop (i + 1)).map V.str := by
          have : (i : Int) + 1 = ((i + 1 : Nat) : Int) := by omega
          rw [this, cut_drop, List.map_drop]
        refine ⟨_, rfl, .inl ⟨rfl, _, tyL hS7⟩, _, rfl, _, rfl, _, 1, rfl, rfl, _, rfl, R, _, rfl, tyT hR7, fun z => ?_, fun U nU => ?_⟩
        · have z1 := z.1
          have : (i : Int) + 1 = ((i + 1 : Nat) : Int) := by omega
          rw [List.length_map, this, HT.sIx_nat] at z1
          omega
        rw [cutR]
        have x7 : Ex H7 (upd H7 U (.tup ((ns.drop (i + 1)).map V.str))) := Ex.new nU
        have hU : (upd H7 U (.tup ((ns.drop (i + 1)).map V.str))) U = some (.tup ((ns.drop (i + 1)).map V.str)) := upd_same
        have hS8 := x7 _ _ hS7
        have hF8 := x7 _ _ hF7
        have hp8 := hp7.ex' x7
        have e8 := e7.trans (Exp.of x7)
        have hq8 : PrsAt (upd H7 U (.tup ((ns.drop (i + 1)).map V.str))) qs prs := hq7.mono fun a xs z => x7 _ _ z
        have hr8 : PrsAt (upd H7 U (.tup ((ns.drop (i + 1)).map V.str))) ss rs := hr7.mono fun a xs z => x7 _ _ z
        generalize (upd H7 U (.tup ((ns.drop (i + 1)).map V.str))) = H8 at hU hS8 hF8 hp8 e8 hq8 hr8 ⊢
        refine ⟨U, rfl, ⟨_, tyT hU⟩, fun D nD => walk_W (walk_tup (xs := (ns.drop (i + 1)).map V.str)) (fun j H' => Ex H8 H' ∧ ∃ us, H' D = some (.lst (us.map V.ref)) ∧ us.length ≤ j ∧ PrsAt H' us (leftOf prs a ((ns.drop (i + 1)).take j))) ⟨Ex.new nD, [], upd_same, Nat.le_refl _, .nil⟩ (fun j H' _ pv => tyT (pv.1 _ _ hU)) (fun j x H9 H9' hj pv y => ?_) (fun H9 pv => ?_)⟩
        · obtain ⟨e9, us, hD, ul, hus⟩ := pv
          obtain ⟨rfl, hx⟩ := y
          rw [List.getElem?_map] at hx
          rw [List.length_map, List.length_drop] at hj
          cases h2 : (ns.drop (i + 1))[j]? with
          | none => rw [h2] at hx; cases hx
          | some b =>
            rw [h2] at hx
            obtain rfl : V.str b = x := Option.some.inj hx
            have bm : b ∈ ns := List.mem_of_mem_drop (List.mem_of_getElem? h2)
            have oab : OkP a b := nk.okP am bm
            have tk : (ns.drop (i + 1)).take (j + 1) = (ns.drop (i + 1)).take j ++ [b] := by
              rw [List.take_succ, h2]
              rfl
            have lt : leftOf prs a ((ns.drop (i + 1)).take (j + 1)) = leftOf prs a ((ns.drop (i + 1)).take j) ++ (if (!decide ((a, b) ∈ prs)) = true then [(a, b)] else []) := by
              unfold leftOf
              rw [tk, List.filter_append, List.map_append, List.filter_cons]
              split <;> rfl
            refine ⟨rfl, _, rfl, _, rfl, sz2, fun W nW => ?_⟩
            have x9 : Ex H9' (upd H9' W (.tup [.str a, .str b])) := Ex.new nW
            refine ⟨_, rfl, prD (a, b), prs.map prD, .tup (tyT upd_same) (.cons (.str _) (.cons (.str _) .nil)), .lst (tyL (x9 _ _ (e9 _ _ hF8))) (dp_prs (hq8.mono fun a xs z => x9 _ _ (e9 _ _ z))), shP oab, sh_prs okf, _, rfl, ?_⟩
            rw [any_prs]
            show if (!decide ((a, b) ∈ prs)) = true then _ else _
            cases hc : (!decide ((a, b) ∈ prs)) with
            | false =>
              refine iteF ⟨e9.trans x9, us, x9 _ _ hD, Nat.le_succ_of_le ul, ?_⟩
              rw [lt, hc, if_neg Bool.false_ne_true, List.append_nil]
              exact hus.mono fun a xs z => x9 _ _ z
            | true =>
              refine iteT ⟨_, rfl, _, rfl, sz2, fun W2 nW2 => ?_⟩
              have x10 := ex_upd (o := .tup [.str a, .str b]) x9 (Evl.fresh_back x9 nW2)
              have hD10 := x10 _ _ hD
              have hW2 : (upd (upd H9' W (.tup [.str a, .str b])) W2 (.tup [.str a, .str b])) W2 = some (.tup [.str a, .str b]) := upd_same
              generalize (upd (upd H9' W (.tup [.str a, .str b])) W2 (.tup [.str a, .str b])) = H10 at x10 hD10 hW2 ⊢
              have kt : ∀ a xs, H10 a = some (.tup xs) → (upd H10 D (.lst (us.map V.ref ++ [.ref W2]))) a = some (.tup xs) := fun a xs z => by
                rw [upd_ne (ne_of z hD10 (by intro z; cases z))]
                exact z
              refine ⟨_, hD10, smallT (by rw [List.length_map]; omega), ex_upd (e9.trans x10) nD, us ++ [W2], by rw [upd_same, List.map_append]; rfl, by rw [List.length_append]; exact Nat.succ_le_succ ul, ?_⟩
              rw [lt, hc, if_pos rfl]
              exact paired_snoc ((hus.mono fun a xs z => x10 _ _ z).mono kt) (kt _ _ hW2)
        · obtain ⟨e9, us, hD, ul, hus⟩ := pv
          rw [List.length_map, List.take_of_length_le (Nat.le_refl _)] at hus
          rw [List.length_map, List.length_drop] at ul
          have hS9 := e9 _ _ hS8
          have rl := ro.few
          have ls : ss.length = rs.length := paired_len hr8
          have kt : ∀ a xs, H9 a = some (.tup xs) → (upd H9 S (.lst (ss.map V.ref ++ us.map V.ref))) a = some (.tup xs) := fun a xs z => by
            rw [upd_ne (ne_of z hS9 (by intro z; cases z))]
            exact z
          refine ⟨S, D, _, _, rfl, rfl, hS9, hD, small (by rw [List.length_map, List.length_map]; omega), fun a' o na' ha' => ?_, ?_, ?_, (hq8.mono fun a xs z => e9 _ _ z).mono kt, ⟨ss ++ us, rs ++ leftOf prs a (ns.drop (i + 1)), by rw [upd_same, List.map_append], paired_append ((hr8.mono fun a xs z => e9 _ _ z).mono kt) (hus.mono kt), ro.add nk n7 ha⟩, _, _, _, rfl⟩
          · rw [upd_ne (ne_of_none ha' nS0)]
            exact e9 _ _ (e8 _ _ na' ha')
          · obtain ⟨x, y, z, g1, g2⟩ := hp8.ex' e9
            exact ⟨x, y, z, by rw [upd_ne (Ne.symm hSp)]; exact g1, g2⟩
          · rw [upd_ne hFS]
            exact e9 _ _ hF8
      · obtain ⟨e6, hp6, hF6, hq6, ⟨ss, rs, hS6, hr6, ro⟩, a6, b6, a9, rfl⟩ := pv
        rw [List.length_map] at ro
        have okr : ∀ r ∈ rs, OkP r.1 r.2 := fun r hr => nk.okP (List.mem_of_mem_take (ro.each r hr).1) (ro.each r hr).2.1
        have ls : ss.length = rs.length := paired_len hr6
        have rl := ro.few
        refine ⟨_, rfl, sz0, fun E nE => ?_⟩
        have x6 : Ex H6 (upd H6 E (.lst [])) := Ex.new nE
        have hE : (upd H6 E (.lst [])) E = some (.lst []) := upd_same
        have hS7 := x6 _ _ hS6
        have hF7 := x6 _ _ hF6
        have hp7 := hp6.ex' x6
        have e7 := e6.trans (Exp.of x6)
        have hq7 : PrsAt (upd H6 E (.lst [])) qs prs := hq6.mono fun a xs z => x6 _ _ z
        have hr7 : PrsAt (upd H6 E (.lst [])) ss rs := hr6.mono fun a xs z => x6 _ _ z
        generalize (upd H6 E (.lst [])) = H7 at hE hS7 hF7 hp7 e7 hq7 hr7 ⊢
        refine ⟨.list (rs.map prD), .list [], .lst (tyL hS7) (dp_prs hr7), .lst (tyL hE) .nil, sh_prs okr, sh_prs (rs := []) (fun r hr => by cases hr), _, rfl, ?_⟩
        rw [ne_nil]
        by_cases re : rs = []
        · subst re
          exact iteF ⟨_, rfl, q F qs prs H7 nF0 e7 (hp7.mono (by omega)) hF7 hq7 pf (by omega)⟩
        · have re0 : 0 < rs.length := List.length_pos_iff.mpr re
          have em : (!(rs.map prD).isEmpty) = true := by
            cases rs with
            | nil => exact absurd rfl re
            | cons _ _ => rfl
          rw [em]
          refine iteT ⟨_, rfl, _, rfl, _, rfl, p, S, c + 15, _, rfl, hp7, by omega, hSp, tyL hS7, by rw [List.length_map]; omega, by rw [List.length_map]; omega, fun Y ys H8 nY e8 hp8 hY pm8 => ?_⟩
          obtain ⟨hYp0, hYp⟩ := fresh_exp e7 hp7 nY
          have hF8 := e8 _ _ hFp hF7
          obtain ⟨pz7, hpz7⟩ := hp7.lst
          have hq8 : PrsAt H8 qs prs := hq7.mono fun a xs z => e8.tup hpz7 z
          have hr8 : PrsAt H8 ss rs := hr7.mono fun a xs z => e8.tup hpz7 z
          obtain ⟨ss', rs', rfl, hr', pr'⟩ := paired_perm hr8 pm8
          have e08 := e7.trans e8
          refine ⟨_, rfl, .inl ⟨m, rfl, _, rfl, F, _, rfl, .inl (tyL hF8), m, _, rfl, rfl, 0, _, rfl, _, rfl, Y, _, rfl, tyL hY, fun Z nZ => ?_⟩⟩
          obtain ⟨k, hk⟩ : ∃ k : Nat, (if m - ((qs.map V.ref).length : Int) > 0 then m - ((qs.map V.ref).length : Int) else 0) = (k : Int) := ⟨(if m - ((qs.map V.ref).length : Int) > 0 then m - ((qs.map V.ref).length : Int) else 0).toNat, by split <;> omega⟩
          have hk2 : prs.length + k ≤ 16 := by
            rw [List.length_map] at hk
            split at hk <;> omega
          rw [hk, cut_take]
          have x8 : Ex H8 (upd H8 Z (.lst ((ss'.map V.ref).take k))) := Ex.new nZ
          have ls' : ss'.length = rs'.length := paired_len hr'
          have lr' := pr'.length_eq
          refine ⟨F, Z, _, _, rfl, rfl, x8 _ _ hF8, upd_same, small (by rw [List.length_map, List.length_take, List.length_map]; omega), fun V1 nV => ?_⟩
          have x9 := ex_upd (o := .lst (qs.map V.ref ++ (ss'.map V.ref).take k)) x8 (Evl.fresh_back x8 nV)
          refine q V1 (qs ++ ss'.take k) (prs ++ rs'.take k) _ (fresh_exp (e08.trans (Exp.of x8)) (hp8.ex' x8) nV).1 (e08.trans (Exp.of x9)) ((hp8.ex' x9).mono (by omega)) (by rw [upd_same, List.map_append, List.map_take]) (paired_append (hq8.mono fun a xs z => x9 _ _ z) (paired_take k (PrsAt.mono hr' fun a xs z => x9 _ _ z))) ⟨fun r hr => ?_, List.nodup_append.mpr ⟨pf.nd, ?_, fun r hr s hs e => ?_⟩⟩ ?_
          · rcases List.mem_append.mp hr with hr | hr
            · exact pf.each r hr
            · have := ro.each r (pr'.mem_iff.mp (List.mem_of_mem_take hr))
              exact ⟨List.mem_of_mem_take this.1, this.2.1, this.2.2.1⟩
          · exact ((pr'.nodup_iff).mpr ro.nd).sublist (List.take_sublist _ _)
          · have := ro.each s (pr'.mem_iff.mp (List.mem_of_mem_take hs))
            exact this.2.2.2 (by rw [← e]; exact hr)
          · rw [List.length_append, List.length_take]
            omega
end
end QT
namespace QT
open PySem PySem.Spec PyProof.Rows L2 QS QR
open Evl (Ex)
/-! ### a world: routers and links as tuples -/
structure WorldAt (H : Hp) (wd : Addr) (ns : List Str) (ls : List Lk) : Prop where
  ex : ∃ R L qs, H wd = some (.tup [.ref R, .ref L]) ∧ H R = some (.tup (ns.map V.str)) ∧ H L = some (.tup (qs.map V.ref)) ∧ LinksAt H qs ls
  names : NamesOk ns
  links : LinksOk ns ls
  few : ns.length ≤ 7
  low : ∀ l ∈ ls, l.2.2.1 ≤ 100 ∧ l.2.2.2 ≤ 100
theorem WorldAt.mono {H H' : Hp} {wd : Addr} {ns : List Str} {ls : List Lk} (h : WorldAt H wd ns ls) (k : ∀ a xs, H a = some (.tup xs) → H' a = some (.tup xs)) : WorldAt H' wd ns ls := by
  obtain ⟨R, L, qs, a1, a2, a3, a4⟩ := h.ex
  exact ⟨⟨R, L, qs, k _ _ a1, k _ _ a2, k _ _ a3, linksAt_mono k a4⟩, h.names, h.links, h.few, h.low⟩
theorem if_both {c : Bool} {A B : Prop} (h1 : A) (h2 : B) : if c = true then A else B := by
  cases c with
  | true => exact iteT h1
  | false => exact iteF h2
section
variable {P : Program} {w : World} {K : PySem.W.Frag} {mg : Str → Option Value} {base : Heap}
def sp_l_with : Sp := fun vs H Q _ => ∃ (wd : Addr) (ns : List Str) (ls : List Lk) (m : Lk), vs = [.ref wd, .str m.1, .str m.2.1, .int m.2.2.1, .int m.2.2.2] ∧ WorldAt H wd ns ls ∧ LkOk ns m ∧ m.2.2.1 ≤ 100 ∧ m.2.2.2 ≤ 100 ∧ (ls.filter fun k => !samePair m.1 m.2.1 k).length ≤ 15 ∧
  ∀ wd' ls' H', Ex H H' → ls'.Perm ((ls.filter fun k => !samePair m.1 m.2.1 k) ++ [m]) → WorldAt H' wd' ns ls' → Q (.ref wd') H'
theorem ok_l_with (T : TX K mg) : FnOk P w K mg base CX0 1 T.l_with.f T.l_with.d ["_law_world_here", "_law_a", "_law_b", "_law_there", "_law_back"] sp_l_with := by
  refine T.l_with.F.ok sc_l_with (fun vs H Q E h => ?_) (fun cdv A outer s H vs Q E hr h => ?_)
  · obtain ⟨wd, ns, ls, m, rfl, _⟩ := h
    rfl
  · obtain ⟨wd, ns, ls, m, rfl, hw, hm, mt, mb, few, q⟩ := h
    obtain ⟨R, L, qs, n1, n2, n3, n4⟩ := hw.ex
    have hu := hr.units
    refine ⟨_, pss_cons (ps_setLc (i := 5) (own := [("_law_link", 6)]) (g := gName 6) (tt := tNeP K 6 1 2) (te := tVar 6) rfl sc_l_with.nd rfl rfl rfl (pi_tup (pe_ix ix_tup (pv 0) pe_int (fun _ _ => rfl))) (blkOk_by (own := [("_law_link", 6)]) (N := N_l_with) (sc := defScope s_l_with) (by decide +kernel))
          (fun _ _ _ _ _ => pg_name (i := 6) sc_l_with.nd rfl (.inl rfl)) (fun _ _ _ _ _ => pts_one (pt_cmpR (op_neD (by exact hu)) (pe_slice sl_tup (pv 6) po_none (po_some pe_int)) (pe_tup (pa_cons (pv 1) (pa_cons (pv 2) pa_nil))) (nomark _))) (fun _ _ _ _ _ => pv 6))
      (pss_one (ps_ret (pe_tup (pa_cons (pe_ix ix_tup (pv 0) pe_int (fun _ _ => rfl)) (pa_cons (pe_callTy call_tup (by rfl) T.n_tuple boot_tuple' (pa_cons (pe_callB (cr_sortedUs rfl) (by rfl) T.n_sorted boot_sorted' (pa_cons (pe_callTy (cr_setUs rfl (by exact hu)) (by rfl) T.n_set boot_set' (pa_cons
          (pe_op op_cat (pv 5) (pe_lst (pa_cons (pe_tup (pa_cons (pv 1) (pa_cons (pv 2) (pa_cons (pv 3) (pa_cons (pv 4) pa_nil))))) pa_nil))) pa_nil)) pa_nil)) pa_nil)) pa_nil))))), ?_⟩
    have lq : qs.length = ls.length := paired_len n4
    have most := hw.links.most
    refine ⟨_, rfl, wd, _, 1, .ref L, rfl, rfl, tyT n1, rfl, L, rfl, ⟨_, tyT n3⟩, fun D nD => r_kept rfl n3 n4 (by omega) (fun l hl => hw.links.okP hw.names hl) (hw.names.okP hm.1 hm.2.1) nD (fun _ => rfl) (fun _ => rfl) (fun _ => rfl) (fun _ => rfl) (fun H2 qs' e3 hD hq' => ?_)⟩
    refine ⟨_, rfl, wd, _, 0, .ref R, rfl, rfl, tyT (e3 _ _ n1), rfl, t_put (m := m) rfl rfl rfl rfl rfl hD hq' (keep_apart hw.links m) (by omega) fun H3 T3 qs3 ls3 e5 h1 h2 h3 h4 => ⟨sz2, fun t nt => ?_⟩⟩
    have e6 : Ex H3 (upd H3 t (.tup [.ref R, .ref T3])) := Ex.new nt
    have e36 := (e3.trans e5).trans e6
    exact q t ls3 _ e36 h3 ⟨⟨R, T3, qs3, upd_same, e36 _ _ n2, e6 _ _ h1, linksAt_mono (fun a xs z => e6 _ _ z) h2⟩, hw.names, put_ok hw.links hm few h3 h4, hw.few, fun l hl => by
      rcases List.mem_append.mp (h3.mem_iff.mp hl) with z | z
      · exact hw.low l (List.mem_filter.mp z).1
      · rw [List.mem_singleton.mp z]; exact ⟨mt, mb⟩⟩
def sp_l_made (C : Addr) : Sp := fun vs H Q _ => ∃ (wd : Addr) (ns : List Str) (ls : List Lk), vs = [.ref wd] ∧ WorldAt H wd ns ls ∧ ∀ n H', Ex H H' → NetAt C H' n ns ls → Q (.ref n) H'
theorem ok_l_made (T : TX K mg) : FnOk P w K mg base CX0 7 T.l_made.f T.l_made.d ["_law_world_here"] (sp_l_made T.CN) := by
  refine T.l_made.F.ok sc_l_made (fun vs H Q E h => ?_) (fun cdv A outer s H vs Q E hr h => ?_)
  · obtain ⟨wd, ns, ls, rfl, _⟩ := h
    rfl
  · obtain ⟨wd, ns, ls, rfl, hw, q⟩ := h
    obtain ⟨R, L, qs, n1, n2, n3, n4⟩ := hw.ex
    refine ⟨_, pss_one (ps_ret (p_net T hr (pa_cons (pe_ix ix_tup (pv 0) pe_int (fun _ _ => rfl)) (pa_cons (pe_ix ix_tup (pv 0) pe_int (fun _ _ => rfl)) pa_nil)))), ?_⟩
    refine ⟨_, rfl, wd, _, 0, .ref R, rfl, rfl, tyT n1, rfl, _, rfl, wd, _, 1, .ref L, rfl, rfl, tyT n1, rfl, ?_⟩
    exact r_net n2 n3 n4 hw.names hw.links fun n H' e hn => q n H' e hn
def tSort (K : PySem.W.Frag) (P : Program) (w : World) (i : Nat) : TE := tCB (rTup K) (tCons (tCB (rSortedUs K P w) (tCons (tCB (rSetUs K P w) (tCons (tVar i) tNil)) tNil)) tNil)
theorem t_sort {σ : L2.St} {H : Hp} {Q : VK} {i : Nat} {D : Addr} {qs : List Addr} {ls : List Lk} (hi : σ[i]? = some (some (.ref D))) (hD : H D = some (.lst (qs.map V.ref))) (hq : LinksAt H qs ls) (ap : Apart ls) (few : ls.length < 64)
    (q : ∀ H' T qs' ls', Ex H H' → H' T = some (.tup (qs'.map V.ref)) → LinksAt H' qs' ls' → ls'.Perm ls → ls'.Pairwise plt → Q (.ref T) H') : tSort K P w i σ H Q := by
  refine ⟨_, hi, ?_⟩
  exact r_tss hD hq ap few q
def sp_l_world : Sp := fun vs H Q _ => ∃ (p : Addr) (c : Nat) (lo hi mo : Int), vs = [.ref p, .int lo, .int hi, .int mo] ∧ PotAt H p c ∧ c ≤ 500000 ∧ 2 ≤ lo ∧ lo ≤ hi ∧ hi ≤ 7 ∧ 0 ≤ mo ∧ mo ≤ 100 ∧
  ∀ wd ns ls H', Exp p H H' → PotAt H' p (c + 200) → WorldAt H' wd ns ls → Q (.ref wd) H'
theorem ok_l_world (T : TX K mg) : FnOk P w K mg base CX0 4 T.l_world.f T.l_world.d ["_law_pot_here", "_law_least", "_law_most", "_law_more"] sp_l_world := by
  have G1 : FnOk P w K mg base CX0 1 T.l_take.f T.l_take.d ["_law_pot_here", "_law_upto"] sp_l_take := ok_l_take T
  have G2 : FnOk P w K mg base CX0 3 T.l_names.f T.l_names.d ["_law_pot_here", "_law_many"] sp_l_names := ok_l_names T
  have G3 : FnOk P w K mg base CX0 3 T.l_pairs.f T.l_pairs.d ["_law_pot_here", "_law_routers", "_law_many"] sp_l_pairs := ok_l_pairs T
  have G4 : FnOk P w K mg base CX0 3 T.l_far.f T.l_far.d ["_law_pot_here"] sp_l_far := ok_l_far T
  refine T.l_world.F.ok sc_l_world (fun vs H Q E h => ?_) (fun cdv A outer s H vs Q E hr h => ?_)
  · obtain ⟨p, c, lo, hi, mo, rfl, _⟩ := h
    rfl
  · obtain ⟨p, c, lo, hi, mo, rfl, hp, c5, lo2, lohi, hi7, mo0, mo1, q⟩ := h
    have hu := hr.units
    refine ⟨_, pss_cons (ps_set (i := 4) sc_l_world.nd rfl (.inl rfl) (pe_op op_add (pv 1) (T.l_take.call G1 (hr.mono (by decide)) (pa_cons (pv 0) (pa_cons (pe_op op_add (pe_op op_sub (pv 2) (pv 1)) pe_int) pa_nil)))))
      (pss_cons (ps_set (i := 5) sc_l_world.nd rfl (.inl rfl) (pe_callTy call_tup (by rfl) T.n_tuple boot_tuple' (pa_cons (T.l_names.call G2 hr (pa_cons (pv 0) (pa_cons (pv 4) pa_nil))) pa_nil)))
      (pss_cons (ps_set (i := 6) sc_l_world.nd rfl (.inl rfl) (T.l_pairs.call G3 hr (pa_cons (pv 0) (pa_cons (pv 5) (pa_cons (pe_callB (call_min2 rfl) (by rfl) T.n_min boot_min' (pa_cons pe_int (pa_cons (pe_op op_add (pe_op op_sub (pv 4) pe_int) (T.l_take.call G1 (hr.mono (by decide)) (pa_cons (pv 0) (pa_cons (pe_op op_add (pv 3) pe_int) pa_nil)))) pa_nil))) pa_nil)))))
      (pss_cons (ps_par (by rfl) sc_l_world.nd rfl rfl (by decide) rfl rfl (pa_cons (pe_lst pa_nil) (pa_cons (pe_cmpR op_eq (T.l_take.call G1 (hr.mono (by decide)) (pa_cons (pv 0) (pa_cons pe_int pa_nil))) pe_int (nomark _)) pa_nil)) (by rfl) (i := 7) (j := 8))
      (pss_cons (ps_for PassesOwn.never rfl (pi_list (pv 6)) (pg_tup rfl (pgs_cons (pg_name (i := 9) sc_l_world.nd rfl (.inl rfl)) (pgs_cons (pg_name (i := 10) sc_l_world.nd rfl (.inl rfl)) pgs_nil)))
        (pss_cons (ps_set (i := 11) sc_l_world.nd rfl (.inl rfl) (T.l_far.call G4 hr (pa_cons (pv 0) pa_nil)))
        (pss_one (ps_expr (pe_bm PySem.F.plainAttrs_list PySem.F.slot_list_append PySem.F.type_list_append mt_append (pv 7) (pa_cons (pe_tup (pa_cons (pv 9) (pa_cons (pv 10) (pa_cons (pv 11) (pa_cons (pe_ifExp (pt_val (pv 8)) (pv 11) (T.l_far.call G4 hr (pa_cons (pv 0) pa_nil))) pa_nil))))) pa_nil))))))
      (pss_one (ps_ret (pe_tup (pa_cons (pv 5) (pa_cons (pe_callTy call_tup (by rfl) T.n_tuple boot_tuple' (pa_cons (pe_callB (cr_sortedUs rfl) (by rfl) T.n_sorted boot_sorted' (pa_cons (pe_callTy (cr_setUs rfl (by exact hu)) (by rfl) T.n_set boot_set' (pa_cons (pv 7) pa_nil)) pa_nil)) pa_nil)) pa_nil))))))))), ?_⟩
    refine ⟨_, rfl, _, rfl, _, rfl, _, rfl, hi, lo, rfl, rfl, _, 1, rfl, rfl, p, c, _, rfl, hp, by omega, by omega, by omega, fun r H1 e1 hp1 r0 rl => ⟨lo, r, rfl, rfl, ?_⟩⟩
    obtain ⟨m, hm⟩ : ∃ m : Nat, lo + r = (m : Int) := ⟨(lo + r).toNat, by omega⟩
    refine ⟨_, rfl, _, rfl, p, c + 1, m, congrArg (fun x => [V.ref p, V.int x]) hm, hp1, by omega, by omega, by omega, fun N ns H2 nN e2 hp2 hN nk nl => ⟨N, _, rfl, .inl ⟨tyL hN, fun R nR => ?_⟩⟩⟩
    have e02 := e1.trans e2
    have x3 : Ex H2 (upd H2 R (.tup (ns.map V.str))) := Ex.new nR
    have hR3 : (upd H2 R (.tup (ns.map V.str))) R = some (.tup (ns.map V.str)) := upd_same
    have hp3 := hp2.ex' x3
    have e03 := e02.trans (Exp.of x3)
    generalize (upd H2 R (.tup (ns.map V.str))) = H3 at hR3 hp3 e03 ⊢
    refine ⟨_, rfl, _, rfl, _, rfl, _, 1, rfl, rfl, _, rfl, _, rfl, mo, 1, rfl, rfl, p, _, _, rfl, hp3, by omega, by omega, by omega, fun r2 H4 e4 hp4 r20 r2l => ⟨_, r2, rfl, rfl, 16, _, rfl, ?_⟩⟩
    obtain ⟨pz3, hpz3⟩ := hp3.lst
    have hR4 := e4.tup hpz3 hR3
    refine ⟨p, R, _, ns, _, rfl, hp4, by omega, hR4, nk, by omega, by split <;> omega, fun Pq qs rs H5 nP e5 hp5 hP5 hq5 pk l16 => ?_⟩
    have e04 := e03.trans e4
    have e05 := e04.trans e5
    obtain ⟨nP0, hPp⟩ := fresh_exp e04 hp4 nP
    obtain ⟨pz4, hpz4⟩ := hp4.lst
    have hR5 := e5.tup hpz4 hR4
    refine ⟨sz0, fun G nG => ?_⟩
    obtain ⟨nG0, hGp⟩ := fresh_exp e05 hp5 nG
    have hPG : Pq ≠ G := ne_of_none hP5 nG
    have x6 : Ex H5 (upd H5 G (.lst [])) := Ex.new nG
    have hG6 : (upd H5 G (.lst [])) G = some (.lst (([] : List Addr).map V.ref)) := upd_same
    have hP6 := x6 _ _ hP5
    have hR6 := x6 _ _ hR5
    have hp6 := hp5.ex' x6
    have hq6 : PrsAt (upd H5 G (.lst [])) qs rs := PrsAt.mono hq5 fun a xs z => x6 _ _ z
    have e06 := e05.trans (Exp.of x6)
    generalize (upd H5 G (.lst [])) = H6 at hG6 hP6 hR6 hp6 hq6 e06 ⊢
    refine ⟨_, rfl, p, _, 2, rfl, hp6, by omega, by decide, by decide, fun r3 H7 e7 hp7 _ _ => ⟨rfl, _, _, rfl, ?_⟩⟩
    obtain ⟨pz6, hpz6⟩ := hp6.lst
    have hG7 := e7 _ _ hGp hG6
    have hP7 := e7 _ _ hPp hP6
    have hR7 := e7.tup hpz6 hR6
    have hq7 : PrsAt H7 qs rs := hq6.mono fun a xs z => e7.tup hpz6 z
    have e07 := e06.trans e7
    have lq : qs.length = rs.length := paired_len hq7
    refine ⟨_, rfl, Pq, rfl, ⟨_, tyL hP7⟩, for_it (walk_list (xs := qs.map V.ref)) (fun i σ H' => Exp p H H' ∧ PotAt H' p (c + 60 + 6 * i) ∧ H' Pq = some (.lst (qs.map V.ref)) ∧ PrsAt H' qs rs ∧ H' R = some (.tup (ns.map V.str)) ∧ (∃ gs ls, H' G = some (.lst (gs.map V.ref)) ∧ LinksAt H' gs ls ∧ ls.map (fun l => (l.1, l.2.1)) = rs.take i ∧ ∀ l ∈ ls, (1 ≤ l.2.2.1 ∧ 1 ≤ l.2.2.2) ∧ l.2.2.1 ≤ 100 ∧ l.2.2.2 ≤ 100) ∧ ∃ a b t, σ = [some (.ref p), some (.int lo), some (.int hi), some (.int mo), some (.int (lo + r)), some (.ref R), some (.ref Pq), some (.ref G), some (.bl (decide (V.int r3 = V.int 0))), a, b, t]) ?_ (fun i σ H' _ pv => tyL pv.2.2.1) (fun i x σ H8 H8' hi8 pv y => ?_) (fun σ H8 pv => ?_)⟩
    · exact ⟨e07, hp7.mono (by omega), hP7, hq7, hR7, ⟨[], [], hG7, .nil, rfl, fun l hl => by cases hl⟩, _, _, _, rfl⟩
    · obtain ⟨e8, hp8, hP8, hq8, hR8, ⟨gs, ls, hG8, hg8, lr, lp⟩, a, b, t, rfl⟩ := pv
      obtain ⟨rfl, hx⟩ := y
      rw [List.length_map] at hi8
      rw [List.getElem?_map] at hx
      obtain ⟨q0, h1⟩ : ∃ q0, qs[i]? = some q0 := ⟨_, List.getElem?_eq_getElem hi8⟩
      rw [h1] at hx
      obtain rfl : V.ref q0 = x := Option.some.inj hx
      obtain ⟨rr, hrr, hq0⟩ := paired_get hq8 i h1
      have hq0 : H8' q0 = some (.tup [.str rr.1, .str rr.2]) := hq0
      refine ⟨q0, _, rfl, tyT hq0, rfl, _, _, rfl, _, _, rfl, rfl, ?_⟩
      refine ⟨_, rfl, p, _, rfl, hp8, by omega, fun th H9 e9 hp9 th1 th2 => ?_⟩
      have hG9 := e9 _ _ hGp hG8
      refine ⟨_, rfl, .inl ⟨rfl, _, tyL hG9⟩, _, rfl, _, rfl, _, rfl, _, rfl, _, rfl, ?_⟩
      have ll : ls.length ≤ 16 := by
        have := congrArg List.length lr
        rw [List.length_map, List.length_take] at this
        omega
      have lg : gs.length = ls.length := paired_len hg8
      have szg : (gs.map V.ref).length < sizeLine := smallT (by rw [List.length_map]; omega)
      obtain ⟨pz8, hpz8⟩ := hp8.lst
      have fin : ∀ (bk : Int) (H10 : Hp) (Tt : Addr), Exp p H8' H10 → PotAt H10 p (c + 60 + 6 * (i + 1)) → 1 ≤ bk → bk ≤ 100 → H10 Tt = none → ∃ l xs v, V.ref G = .ref l ∧ [V.ref Tt] = [v] ∧ (upd H10 Tt (.tup [.str rr.1, .str rr.2, .int th, .int bk])) l = some (.lst xs) ∧ xs.length < sizeLine ∧
          (fun σ H' => Exp p H H' ∧ PotAt H' p (c + 60 + 6 * (i + 1)) ∧ H' Pq = some (.lst (qs.map V.ref)) ∧ PrsAt H' qs rs ∧ H' R = some (.tup (ns.map V.str)) ∧ (∃ gs ls, H' G = some (.lst (gs.map V.ref)) ∧ LinksAt H' gs ls ∧ ls.map (fun l => (l.1, l.2.1)) = rs.take (i + 1) ∧ ∀ l ∈ ls, (1 ≤ l.2.2.1 ∧ 1 ≤ l.2.2.2) ∧ l.2.2.1 ≤ 100 ∧ l.2.2.2 ≤ 100) ∧ ∃ a b t, σ = [some (V.ref p), some (.int lo), some (.int hi), some (.int mo), some (.int (lo + r)), some (.ref R), some (.ref Pq), some (.ref G), some (.bl (decide (V.int r3 = V.int 0))), a, b, t])
            [some (V.ref p), some (.int lo), some (.int hi), some (.int mo), some (.int (lo + r)), some (.ref R), some (.ref Pq), some (.ref G), some (.bl (decide (V.int r3 = V.int 0))), some (.str rr.1), some (.str rr.2), some (.int th)] (upd (upd H10 Tt (.tup [.str rr.1, .str rr.2, .int th, .int bk])) l (.lst (xs ++ [v]))) := fun bk H10 Tt e10 hp10 bk1 bk2 nT => by
        have hG10 := e10 _ _ hGp hG8
        have hP10 := e10 _ _ hPp hP8
        have hR10 := e10.tup hpz8 hR8
        have TG : Tt ≠ G := fun z => by rw [z, hG10] at nT; cases nT
        have kt : ∀ a xs, H8' a = some (.tup xs) → (upd (upd H10 Tt (.tup [.str rr.1, .str rr.2, .int th, .int bk])) G (.lst (gs.map V.ref ++ [.ref Tt]))) a = some (.tup xs) := fun a xs z => by
          have z := e10.tup hpz8 z
          rw [upd_ne (ne_of z hG10 (by intro z; cases z)), upd_ne (ne_of_none z nT)]
          exact z
        refine ⟨G, _, _, rfl, rfl, by rw [upd_ne (ne_of_none hG10 nT)]; exact hG10, szg, fun a' o na ha => ?_, ?_, ?_, PrsAt.mono hq8 kt, kt _ _ hR8, ⟨gs ++ [Tt], ls ++ [(rr.1, rr.2, th, bk)], by rw [upd_same, List.map_append]; rfl, paired_snoc (linksAt_mono kt hg8) ?_, ?_, fun l hl => ?_⟩, _, _, _, rfl⟩
        · have h10 := e10 _ _ na (e8 _ _ na ha)
          rw [upd_ne (ne_of_none ha nG0), upd_ne (ne_of_none h10 nT)]
          exact h10
        · obtain ⟨x, y, z, g1, g2⟩ := hp10
          exact ⟨x, y, z, by rw [upd_ne (Ne.symm hGp), upd_ne (ne_of_none g1 nT)]; exact g1, g2⟩
        · rw [upd_ne hPG, upd_ne (ne_of_none hP10 nT)]
          exact hP10
        · show (upd (upd H10 Tt (.tup [.str rr.1, .str rr.2, .int th, .int bk])) G (.lst (gs.map V.ref ++ [.ref Tt]))) Tt = some (.tup [.str rr.1, .str rr.2, .int th, .int bk])
          rw [upd_ne TG]
          exact upd_same
        · rw [List.map_append, lr, List.take_succ, hrr]
          rfl
        · rcases List.mem_append.mp hl with z | z
          · exact lp l z
          · rw [List.mem_singleton.mp z]
            exact ⟨⟨th1, bk1⟩, th2, bk2⟩
      refine if_both ⟨_, rfl, sz4, fun Tt nT => fin th H9 Tt e9 (hp9.mono (by omega)) th1 th2 nT⟩ ⟨_, rfl, p, _, rfl, hp9, by omega, fun bk H10 e10 hp10 bk1 bk2 => ⟨sz4, fun Tt nT => fin bk H10 Tt (e9.trans e10) (hp10.mono (by omega)) bk1 bk2 nT⟩⟩
    · obtain ⟨e8, hp8, hP8, hq8, hR8, ⟨gs, ls, hG8, hg8, lr, lp⟩, a, b, t, rfl⟩ := pv
      rw [List.length_map, List.take_of_length_le (Nat.le_of_eq lq.symm)] at lr
      have ll : ls.length = rs.length := by rw [← lr, List.length_map]
      rw [List.length_map] at hp8
      have ap : Apart ls := by
        have nd := pk.nd
        rw [← lr] at nd
        exact (List.pairwise_map.mp nd).imp fun {a b} h z => h (Prod.ext z.1 z.2)
      refine ⟨_, rfl, t_sort (D := G) (qs := gs) (ls := ls) rfl hG8 hg8 ap (by omega) fun H9 L qs' ls' e9 hL hl9 pm pw => ⟨sz2, fun wd nwd => ?_⟩⟩
      have x9 := e9.trans (Ex.new (o := .tup [.ref R, .ref L]) nwd)
      refine q wd ns ls' _ (e8.trans (Exp.of x9)) ((hp8.ex' x9).mono (by omega)) ⟨⟨R, L, qs', upd_same, x9 _ _ hR8, Ex.new nwd _ _ hL, linksAt_mono (fun a xs z => Ex.new nwd _ _ z) hl9⟩, nk, ⟨by rw [pm.length_eq]; omega, fun l hl => ?_, pw⟩, by omega, fun l hl => (lp l (pm.mem_iff.mp hl)).2⟩
      have hl := pm.mem_iff.mp hl
      have hr : (l.1, l.2.1) ∈ rs := by
        rw [← lr]
        exact List.mem_map.mpr ⟨l, hl, rfl⟩
      have := pk.each _ hr
      exact ⟨this.1, this.2.1, this.2.2, (lp l hl).1.1, (lp l hl).1.2⟩
end
end QT
namespace QT
open PySem PySem.Spec PyProof.Rows L2 QS QR
open Evl (Ex)
abbrev lkD (l : Lk) : PyData := .tuple [.str l.1, .str l.2.1, .int l.2.2.1, .int l.2.2.2]
theorem dp_lks {K : PySem.W.Frag} {H : Hp} : ∀ {qs : List Addr} {ls : List Lk}, LinksAt H qs ls → DpAll K H (qs.map V.ref) (ls.map lkD)
  | _, _, .nil => .nil
  | _, _, .cons a b => .cons (.tup (tyT a) (.cons (.str _) (.cons (.str _) (.cons (.int _) (.cons (.int _) .nil))))) (dp_lks b)
theorem lay_lks : ∀ {ls : List Lk}, (∀ l ∈ ls, OkP l.1 l.2.1) → PyData.canLayAll0 (ls.map lkD) = true
  | [], _ => rfl
  | l :: ls, h => by
    have h1 := h l List.mem_cons_self
    show (PyData.canLay0 (lkD l) && PyData.canLayAll0 (ls.map lkD)) = true
    rw [lay_lks fun x hx => h x (List.mem_cons_of_mem _ hx)]
    simp [PyData.canLay0, PyData.canLayAll0, h1.1, h1.2]
theorem deep_lks : ∀ ls : List Lk, PyData.depthAll (ls.map lkD) ≤ 3
  | [] => by simp [PyData.depthAll]
  | l :: ls => by
    have := deep_lks ls
    simp only [List.map_cons, PyData.depthAll, PyData.depth]
    omega
theorem sh_lks {ls : List Lk} (h : ∀ l ∈ ls, OkP l.1 l.2.1) : SeqAt.shaped (.tuple (ls.map lkD)) = true := by
  unfold SeqAt.shaped
  rw [Bool.and_eq_true]
  refine ⟨lay_lks h, decide_eq_true ?_⟩
  have := deep_lks ls
  simp only [PyData.depth]
  omega
theorem eq_nilT (xs : List PyData) : PyData.eqv (.tuple xs) (.tuple []) = xs.isEmpty := by
  cases xs <;> simp [PyData.eqv, PyData.eqvAll]
section
variable {P : Program} {w : World} {K : PySem.W.Frag} {mg : Str → Option Value} {base : Heap}
def sp_l_link_of : Sp := fun vs H Q _ => ∃ (p : Addr) (c : Nat) (lo hi mo : Int), vs = [.ref p, .int lo, .int hi, .int mo] ∧ PotAt H p c ∧ c ≤ 400000 ∧ 2 ≤ lo ∧ lo ≤ hi ∧ hi ≤ 7 ∧ 0 ≤ mo ∧ mo ≤ 100 ∧
  ∀ t wd ns ls l H', Exp p H H' → PotAt H' p (c + 220) → WorldAt H' wd ns ls → l ∈ ls → H' t = some (.tup [.ref wd, .str l.1, .str l.2.1]) → Q (.ref t) H'
theorem ok_l_link_of (T : TX K mg) : FnOk P w K mg base CX0 5 T.l_link_of.f T.l_link_of.d ["_law_pot_here", "_law_least", "_law_most", "_law_more"] sp_l_link_of := by
  have G1 : FnOk P w K mg base CX0 4 T.l_world.f T.l_world.d ["_law_pot_here", "_law_least", "_law_most", "_law_more"] sp_l_world := ok_l_world T
  have G2 : FnOk P w K mg base CX0 1 T.l_with.f T.l_with.d ["_law_world_here", "_law_a", "_law_b", "_law_there", "_law_back"] sp_l_with := ok_l_with T
  have G3 : FnOk P w K mg base CX0 3 T.l_far.f T.l_far.d ["_law_pot_here"] sp_l_far := ok_l_far T
  have G4 : FnOk P w K mg base CX0 2 T.l_of.f T.l_of.d ["_law_pot_here", "_law_some"] (sp_l_of K) := ok_l_of T
  refine T.l_link_of.F.ok sc_l_link_of (fun vs H Q E h => ?_) (fun cdv A outer s H vs Q E hr h => ?_)
  · obtain ⟨p, c, lo, hi, mo, rfl, _⟩ := h
    rfl
  · obtain ⟨p, c, lo, hi, mo, rfl, hp, c4, lo2, lohi, hi7, mo0, mo1, q⟩ := h
    have hu := hr.units
    refine ⟨_, pss_cons (ps_set (i := 4) sc_l_link_of.nd rfl (.inl rfl) (T.l_world.call G1 hr (pa_cons (pv 0) (pa_cons (pv 1) (pa_cons (pv 2) (pa_cons (pv 3) pa_nil))))))
      (Evl.pss_cut (ps_if (pt_cmpR (op_eqD hu) (pe_ix ix_tup (pv 4) pe_int (fun _ _ => rfl)) (pe_tup pa_nil) (nomark _))
        (pss_one (ps_set (i := 4) sc_l_link_of.nd rfl (.inl rfl) (T.l_with.call G2 (hr.mono (by decide)) (pa_cons (pv 4) (pa_cons (pe_ix ix_tup (pe_ix ix_tup (pv 4) pe_int (fun _ _ => rfl)) pe_int (fun _ _ => rfl)) (pa_cons (pe_ix ix_tup (pe_ix ix_tup (pv 4) pe_int (fun _ _ => rfl)) pe_int (fun _ _ => rfl))
          (pa_cons (T.l_far.call G3 (hr.mono (by decide)) (pa_cons (pv 0) pa_nil)) (pa_cons (T.l_far.call G3 (hr.mono (by decide)) (pa_cons (pv 0) pa_nil)) pa_nil)))))))) pss_nil)
      (pss_cons (ps_set (i := 5) sc_l_link_of.nd rfl (.inl rfl) (T.l_of.call G4 (hr.mono (by decide)) (pa_cons (pv 0) (pa_cons (pe_ix ix_tup (pv 4) pe_int (fun _ _ => rfl)) pa_nil))))
      (pss_one (ps_ret (pe_tup (pa_cons (pv 4) (pa_cons (pe_ix ix_tup (pv 5) pe_int (fun _ _ => rfl)) (pa_cons (pe_ix ix_tup (pv 5) pe_int (fun _ _ => rfl)) pa_nil)))))))), ?_⟩
    refine ⟨_, rfl, _, rfl, _, rfl, _, rfl, p, c, lo, hi, mo, rfl, hp, by omega, lo2, lohi, hi7, mo0, mo1, fun wd ns ls H1 e1 hp1 hw => ?_⟩
    refine ⟨fun σ H' => Exp p H H' ∧ PotAt H' p (c + 206) ∧ ∃ wd ns ls, WorldAt H' wd ns ls ∧ ls ≠ [] ∧ σ = [some (.ref p), some (.int lo), some (.int hi), some (.int mo), some (.ref wd), none], ?_, fun σ H2 pv => ?_⟩
    · obtain ⟨R, L, qs, n1, n2, n3, n4⟩ := hw.ex
      refine ⟨_, rfl, wd, _, 1, .ref L, rfl, rfl, tyT n1, rfl, sz0, fun E nE => ?_⟩
      have x1 : Ex H1 (upd H1 E (.tup [])) := Ex.new nE
      have hE : (upd H1 E (.tup [])) E = some (.tup []) := upd_same
      have hp2 := hp1.ex' x1
      have e2 := e1.trans (Exp.of x1)
      have hw2 := hw.mono fun a xs z => x1 _ _ z
      have m1 := x1 _ _ n1
      have m2 := x1 _ _ n2
      have m3 := x1 _ _ n3
      have m4 : LinksAt (upd H1 E (.tup [])) qs ls := linksAt_mono (fun a xs z => x1 _ _ z) n4
      generalize (upd H1 E (.tup [])) = H2 at hE hp2 e2 hw2 m1 m2 m3 m4 ⊢
      refine ⟨.tuple (ls.map lkD), .tuple [], .tup (tyT m3) (dp_lks m4), .tup (tyT hE) .nil, sh_lks fun l hl => hw.links.okP hw.names hl, sh_lks (ls := []) (fun l hl => by cases hl), _, rfl, ?_⟩
      rw [eq_nilT]
      by_cases hls : ls = []
      case neg =>
        have em : (ls.map lkD).isEmpty = false := by
          cases ls with
          | nil => exact absurd rfl hls
          | cons _ _ => rfl
        rw [em]
        exact iteF ⟨e2, hp2.mono (by omega), wd, ns, ls, hw2, hls, rfl⟩
      case pos =>
        subst hls
        have nl := hw.names.least
        obtain ⟨n0, n1', r, hns⟩ : ∃ x y r, ns = x :: y :: r := by
          match ns, nl with
          | x :: y :: r, _ => exact ⟨x, y, r, rfl⟩
        have h0 : atI (ns.map V.str) 0 = some (.str n0) := by rw [hns]; exact atI_nat (j := 0) rfl
        have h1 : atI (ns.map V.str) 1 = some (.str n1') := by rw [hns]; exact atI_nat (j := 1) rfl
        have lt : slt n0 n1' := by
          have := hw.names.asc
          rw [hns] at this
          exact (List.pairwise_cons.mp this).1 _ List.mem_cons_self
        have i0 : n0 ∈ ns := by rw [hns]; exact List.mem_cons_self
        have i1 : n1' ∈ ns := by rw [hns]; exact List.mem_cons_of_mem _ List.mem_cons_self
        refine iteT ⟨_, rfl, _, rfl, wd, _, 0, .ref R, rfl, rfl, tyT m1, rfl, R, _, 0, .str n0, rfl, rfl, tyT m2, h0, _, rfl, wd, _, 0, .ref R, rfl, rfl, tyT m1, rfl, R, _, 1, .str n1', rfl, rfl, tyT m2, h1, _, rfl, p, _, rfl, hp2, by omega, fun f1 H3 e3 hp3 f1a f1b => ⟨_, rfl, p, _, rfl, hp3, by omega, fun f2 H4 e4 hp4 f2a f2b => ?_⟩⟩
        obtain ⟨pz2, hpz2⟩ := hp2.lst
        obtain ⟨pz3, hpz3⟩ := hp3.lst
        have hw4 := (hw2.mono fun a xs z => e3.tup hpz2 z).mono fun a xs z => e4.tup hpz3 z
        refine ⟨wd, ns, [], (n0, n1', f1, f2), rfl, hw4, ⟨i0, i1, lt, f1a, f2a⟩, f1b, f2b, Nat.zero_le _, fun wd' ls' H5 e5 pm hw5 => ?_⟩
        refine ⟨((e2.trans e3).trans e4).trans (Exp.of e5), (hp4.ex' e5).mono (by omega), wd', ns, ls', hw5, fun z => ?_, rfl⟩
        rw [z] at pm
        have := pm.length_eq
        simp at this
    · obtain ⟨e2, hp2, wd, ns, ls, hw, ne, rfl⟩ := pv
      obtain ⟨R, L, qs, n1, n2, n3, n4⟩ := hw.ex
      have lq : qs.length = ls.length := paired_len n4
      have most := hw.links.most
      have pos : 0 < ls.length := List.length_pos_iff.mpr ne
      refine ⟨_, rfl, _, rfl, wd, _, 1, .ref L, rfl, rfl, tyT n1, rfl, p, c + 206, ls.length, _, fun v => ∃ q0 l, v = .ref q0 ∧ l ∈ ls ∧ H2 q0 = some (.tup (lkV l)), rfl, hp2, by omega, pos, by omega, .inr (.inl ⟨L, _, rfl, tyT n3, by rw [List.length_map]; exact lq, fun v hv => ?_⟩), fun v H3 e3 hp3 hv => ?_⟩
      · obtain ⟨i, hi, e⟩ := List.getElem_of_mem hv
        have hi' : (qs.map V.ref)[i]? = some v := by rw [List.getElem?_eq_getElem hi, e]
        obtain ⟨q0, l, e1, e2, e3, _⟩ := links_get n4 hi'
        exact ⟨q0, l, e1, List.mem_of_getElem? e2, e3⟩
      · obtain ⟨q0, l, rfl, hl, hq0⟩ := hv
        obtain ⟨pz2, hpz2⟩ := hp2.lst
        have hq3 := e3.tup hpz2 hq0
        have hw3 := hw.mono fun a xs z => e3.tup hpz2 z
        refine ⟨_, rfl, _, rfl, q0, _, 0, .str l.1, rfl, rfl, tyT hq3, rfl, _, rfl, q0, _, 1, .str l.2.1, rfl, rfl, tyT hq3, rfl, sz3, fun t nt => ?_⟩
        have x4 : Ex H3 (upd H3 t (.tup [.ref wd, .str l.1, .str l.2.1])) := Ex.new nt
        exact q t wd ns ls l _ ((e2.trans e3).trans (Exp.of x4)) ((hp3.ex' x4).mono (by omega)) (hw3.mono fun a xs z => x4 _ _ z) hl upd_same
def sp_l_lengths : Sp := fun vs H Q _ => ∃ (L : Addr) (qs : List Addr) (ns : List Str) (ls : List Lk), vs = [.ref L] ∧ H L = some (.tup (qs.map V.ref)) ∧ LinksAt H qs ls ∧ LinksOk ns ls ∧ ∀ p H', H p = none → Ex H H' → H' p = some (.dT (dictE (edgesOf ls))) → Q (.ref p) H'
theorem ok_l_lengths (T : TX K mg) : FnOk P w K mg base CX0 1 T.l_lengths.f T.l_lengths.d ["_law_links"] sp_l_lengths := by
  refine T.l_lengths.F.ok sc_l_lengths (fun vs H Q E h => ?_) (fun cdv A outer s H vs Q E hr h => ?_)
  · obtain ⟨L, qs, ns, ls, rfl, _⟩ := h
    rfl
  · obtain ⟨L, qs, ns, ls, rfl, n3, n4, lk, q⟩ := h
    have hu := hu_of hr
    refine ⟨_, pss_cons (ps_set (i := 1) sc_l_lengths.nd rfl (.inl rfl) pe_dnewT) (pss_cons (ps_for PassesOwn.never rfl (pi_tup (pv 0))
        (pg_tup rfl (pgs_cons (pg_name (i := 2) sc_l_lengths.nd rfl (.inl rfl)) (pgs_cons (pg_name (i := 3) sc_l_lengths.nd rfl (.inl rfl)) (pgs_cons (pg_name (i := 4) sc_l_lengths.nd rfl (.inl rfl)) (pgs_cons (pg_name (i := 5) sc_l_lengths.nd rfl (.inl rfl)) pgs_nil)))))
      (pss_one (ps_asg (pe_tup (pa_cons (pv 4) (pa_cons (pv 5) pa_nil))) (pg_tup rfl (pgs_cons (pg_sub (pv 1) (pe_tup (pa_cons (pv 2) (pa_cons (pv 3) pa_nil))) (set_dict hu)) (pgs_cons (pg_sub (pv 1) (pe_tup (pa_cons (pv 3) (pa_cons (pv 2) pa_nil))) (set_dict hu)) pgs_nil))))))
      (pss_one (ps_ret (pv 1)))), ?_⟩
    intro p np
    have e0 : Ex H (upd H p (.dT [])) := Ex.new np
    refine ⟨_, rfl, L, rfl, ⟨_, tyT (e0 _ _ n3)⟩, for_it (walk_tup (xs := qs.map V.ref)) (fun i σ H' => Ex H H' ∧ H' p = some (.dT (dictE (edgesOf (ls.take i)))) ∧ ∃ a b c d, σ = [some (.ref L), some (.ref p), a, b, c, d]) ⟨e0, upd_same, _, _, _, _, rfl⟩ (fun i σ H' _ pv => tyT (pv.1 _ _ n3)) (fun i x σ H1 H1' hi pv y => ?_) (fun σ H' pv => ?_)⟩
    · obtain ⟨e1, hp, a, b, c, d, rfl⟩ := pv
      obtain ⟨rfl, hx⟩ := y
      obtain ⟨qa, m, rfl, h1, h2, _⟩ := links_get n4 hx
      have hqa : H1' qa = some (.tup (lkV m)) := e1 _ _ h2
      refine ⟨qa, _, rfl, tyT hqa, rfl, _, _, rfl, _, _, rfl, _, _, rfl, _, _, rfl, rfl, ?_⟩
      refine ⟨_, rfl, _, rfl, sz2, fun T nT => ⟨T, _, rfl, tyT upd_same, rfl, _, _, rfl, _, rfl, _, rfl, _, rfl, sz2, fun k nk => ?_⟩⟩
      have x1 : Ex H1' (upd H1' T (.tup [.int m.2.2.1, .int m.2.2.2])) := Ex.new nT
      have x2 := ex_upd (o := .tup [.str m.1, .str m.2.1]) x1 (Evl.fresh_back x1 nk)
      have hk : (upd (upd H1' T (.tup [.int m.2.2.1, .int m.2.2.2])) k (.tup [.str m.1, .str m.2.1])) k = some (.tup [.str m.1, .str m.2.1]) := upd_same
      have hp2 := x2 _ _ hp
      have g1 := e1.trans x2
      generalize (upd (upd H1' T (.tup [.int m.2.2.1, .int m.2.2.2])) k (.tup [.str m.1, .str m.2.1])) = H2 at x2 hk hp2 g1 ⊢
      refine ⟨p, _, rfl, DPut.t (k := [.inr m.1, .inr m.2.1]) hp2 hk (smallT (by have := dict_len lk i; omega)), _, _, rfl, _, rfl, _, rfl, _, rfl, sz2, fun k2 nk2 => ?_⟩
      have g2 := ex_upd (o := .dT (putK (dictE (edgesOf (ls.take i))) [.inr m.1, .inr m.2.1] (.int m.2.2.1))) g1 np
      have hp3 : (upd H2 p (.dT (putK (dictE (edgesOf (ls.take i))) [.inr m.1, .inr m.2.1] (.int m.2.2.1)))) p = some (.dT (putK (dictE (edgesOf (ls.take i))) [.inr m.1, .inr m.2.1] (.int m.2.2.1))) := upd_same
      generalize (upd H2 p (.dT (putK (dictE (edgesOf (ls.take i))) [.inr m.1, .inr m.2.1] (.int m.2.2.1)))) = H3 at g2 hp3 nk2 ⊢
      have pk2 : p ≠ k2 := ne_of_none hp3 nk2
      have g3 := ex_upd (o := .tup [.str m.2.1, .str m.1]) g2 (Evl.fresh_back g2 nk2)
      refine ⟨p, _, rfl, DPut.t (k := [.inr m.2.1, .inr m.1]) (by rw [upd_ne pk2]; exact hp3) upd_same (smallT ?_), rfl, ?_⟩
      · have h3 := put_len (dictE (edgesOf (ls.take i))) [.inr m.1, .inr m.2.1] (.int m.2.2.1)
        have h4 := dict_len lk i
        omega
      · exact ⟨ex_upd g3 np, by rw [upd_same, dict_next lk h1], _, _, _, _, rfl⟩
    · obtain ⟨e1, hp, a, b, c, d, rfl⟩ := pv
      refine ⟨_, rfl, q p H' np e1 ?_⟩
      rw [hp, List.take_of_length_le (by rw [List.length_map]; exact Nat.le_of_eq (paired_len n4).symm)]
end
end QT
namespace QT
open PySem PySem.Spec PyProof.Rows L2 QS QR
open Evl (Ex)
/-! ### the plain law of a row -/
/-- the edges of the shifted net -/
def shE (ls : List Lk) (l : Lk) (t : Int) : List Edge := edgesOf (ls.filter fun k => !samePair l.1 l.2.1 k) ++ [(l.1, l.2.1, l.2.2.1 + t), (l.2.1, l.1, l.2.2.2 + t)]
theorem stand_congr {E E' : List Edge} (hp : QM.Pos E) (h : ∀ e, e ∈ E ↔ e ∈ E') {u n d : Str} {l : Int} : QM.Stand E u n d l ↔ QM.Stand E' u n d l := by
  unfold QM.Stand
  rw [QM.dist_congr hp h u d, QM.dist_congr hp h n d]
theorem edges_in2 {ns : List Str} {ls : List Lk} (lk : LinksOk ns ls) {u v : Str} {n : Int} (h : (u, v, n) ∈ edgesOf ls) : v ∈ ns := by
  obtain ⟨l, hl, ⟨_, _, e, _⟩ | ⟨_, e, _, _⟩⟩ := edge_cases lk h
  · rw [← e]; exact (lk.each l hl).2.1
  · rw [← e]; exact (lk.each l hl).1
theorem mem_sh {ls ls' : List Lk} {l : Lk} {t : Int} (pm : ls'.Perm ((ls.filter fun k => !samePair l.1 l.2.1 k) ++ [(l.1, l.2.1, l.2.2.1 + t, l.2.2.2 + t)])) (e : Edge) : e ∈ edgesOf ls' ↔ e ∈ shE ls l t := by
  unfold shE
  rw [← edges_snoc (ls.filter fun k => !samePair l.1 l.2.1 k) (l.1, l.2.1, l.2.2.1 + t, l.2.2.2 + t), mem_edges, mem_edges]
  exact ⟨fun ⟨k, hk, h⟩ => ⟨k, pm.mem_iff.mp hk, h⟩, fun ⟨k, hk, h⟩ => ⟨k, pm.mem_iff.mpr hk, h⟩⟩
theorem row_bit {ns : List Str} {ls ls' : List Lk} {l : Lk} {t : Int} (lk' : LinksOk ns ls') (pm : ls'.Perm ((ls.filter fun k => !samePair l.1 l.2.1 k) ++ [(l.1, l.2.1, l.2.2.1 + t, l.2.2.2 + t)])) {u v d : Str} {l0 : Int} (he : (u, v, l0) ∈ edgesOf (ls.filter fun k => !samePair l.1 l.2.1 k)) :
    v ∈ nextsOf ns (edgesOf ls') u d ↔ QM.Stand (shE ls l t) u v d l0 := by
  have hm : (u, v, l0) ∈ edgesOf ls' := (mem_sh pm _).mpr (List.mem_append.mpr (.inl he))
  rw [mem_nexts]
  constructor
  · rintro ⟨_, l1, h1, h2⟩
    rw [edges_one lk' h1 hm] at h2
    exact (stand_congr (edges_pos lk') (mem_sh pm)).mp h2
  · intro h
    exact ⟨edges_in2 lk' hm, l0, hm, (stand_congr (edges_pos lk') (mem_sh pm)).mpr h⟩
open Classical in
/-- a row of the law -/
noncomputable def rowOf (ls : List Lk) (l : Lk) (least : Int) (u v d : Str) (l0 : Int) (k : Nat) : List Bool := (List.range k).map fun (i : Nat) => decide (QM.Stand (shE ls l (least + (i : Int))) u v d l0)
theorem row_len {ls : List Lk} {l : Lk} {least : Int} {u v d : Str} {l0 : Int} {k : Nat} : (rowOf ls l least u v d l0 k).length = k := by
  unfold rowOf
  rw [List.length_map, List.length_range]
open Classical in
theorem row_get {ls : List Lk} {l : Lk} {least : Int} {u v d : Str} {l0 : Int} {k i : Nat} (h : i < k) : (rowOf ls l least u v d l0 k).getD i false = decide (QM.Stand (shE ls l (least + (i : Int))) u v d l0) := by
  unfold rowOf
  rw [List.getD_eq_getElem?_getD, List.getElem?_map, List.getElem?_eq_getElem (by rw [List.length_range]; exact h)]
  rw [List.getElem_range]
  rfl
theorem row_iff {ls : List Lk} {l : Lk} {least : Int} {u v d : Str} {l0 : Int} {k i : Nat} (h : i < k) : (rowOf ls l least u v d l0 k).getD i false = true ↔ QM.Stand (shE ls l (least + (i : Int))) u v d l0 := by
  classical
  rw [row_get h, decide_eq_true_eq]
theorem row_law {ns : List Str} {ls : List Lk} (lk : LinksOk ns ls) {l : Lk} (hl : l ∈ ls) {least : Int} (p1 : 1 ≤ l.2.2.1 + least) (p2 : 1 ≤ l.2.2.2 + least) {u v d : Str} {l0 : Int} (he : (u, v, l0) ∈ edgesOf (ls.filter fun k => !samePair l.1 l.2.1 k)) (k : Nat) :
    QM.RowOk (rowOf ls l least u v d l0 k) least (ptOf (edgesOf (ls.filter fun k => !samePair l.1 l.2.1 k)) l u d) := by
  have kl : LinksOk ns (ls.filter fun k => !samePair l.1 l.2.1 k) := lk.sub List.filter_sublist
  by_cases ud : u = d
  · have kd : QM.Kind (fun _ => False) (ptOf (edgesOf (ls.filter fun k => !samePair l.1 l.2.1 k)) l u d) := .never fun _ h => h
    refine QM.row_ok kd fun i hi => ?_
    rw [row_len] at hi
    rw [row_iff hi]
    exact ⟨fun h => h.1 ud, fun h => h.elim⟩
  · obtain ⟨S, hS, hr⟩ := QM.stand_kind (E := fun t => shE ls l t) (a := l.1) (b := l.2.1) (th := l.2.2.1) (bk := l.2.2.2) (least := least) (edges_pos kl) (fun t ht => ⟨by omega, by omega⟩) (fun t ht e => by
      show e ∈ shE ls l t ↔ _
      unfold shE
      rw [List.mem_append, List.mem_cons, List.mem_singleton]) he ud
    have pe : ptOf (edgesOf (ls.filter fun k => !samePair l.1 l.2.1 k)) l u d = QM.pointOf (QM.dist (edgesOf (ls.filter fun k => !samePair l.1 l.2.1 k)) u d) (QM.over (edgesOf (ls.filter fun k => !samePair l.1 l.2.1 k)) l.1 l.2.1 l.2.2.1 l.2.2.2 u d) := by
      unfold ptOf
      rw [if_neg ud]
      rfl
    rw [pe]
    refine QM.row_ok hS fun i hi => ?_
    rw [row_len] at hi
    rw [row_iff hi]
    exact hr _ (by omega)
/-- where the row turns, as the law counts -/
theorem turns_at (row : List Bool) : Evl.given (row.length - 1) (fun i => row.getD (1 + i) false != row.getD i false) (fun i => V.int (1 + (i : Int))) = (QM.turnsOf row).map fun (c : Nat) => V.int (c : Int) := by
  unfold QM.turnsOf Evl.given
  cases h : row.length with
  | zero => rfl
  | succ n =>
    rw [List.range_succ_eq_map, List.filter_cons]
    have z : ¬ ((decide (1 ≤ 0) && (row.getD 0 false != row.getD (0 - 1) false)) = true) := by simp
    rw [if_neg z, List.filter_map, List.map_map]
    have e1 : n + 1 - 1 = n := rfl
    rw [e1]
    have e2 : (List.range n).filter (fun i => row.getD (1 + i) false != row.getD i false) = (List.range n).filter ((fun i => decide (1 ≤ i) && (row.getD i false != row.getD (i - 1) false)) ∘ Nat.succ) := by
      refine List.filter_congr fun i _ => ?_
      show _ = (decide (1 ≤ i + 1) && (row.getD (i + 1) false != row.getD (i + 1 - 1) false))
      rw [decide_eq_true (by omega : 1 ≤ i + 1), Bool.true_and, Nat.add_comm 1 i]
      rfl
    rw [e2]
    refine List.map_congr_left fun i _ => ?_
    show V.int (1 + (i : Int)) = V.int ((i + 1 : Nat) : Int)
    congr 1
    omega
end QT
namespace QT
open PySem PySem.Spec PyProof.Rows L2 QS QR
open Evl (Ex)
theorem eq_nilL (xs : List PyData) : PyData.eqv (.list xs) (.list []) = xs.isEmpty := by
  cases xs <;> simp [PyData.eqv, PyData.eqvAll]
theorem ne_bl (x y : Bool) : (!decide (V.bl x = V.bl y)) = (x != y) := by cases x <;> cases y <;> decide
theorem at_bl {row : List Bool} {i : Nat} (h : i < row.length) : atI (row.map V.bl) (i : Int) = some (.bl (row.getD i false)) := by
  refine atI_nat ?_
  rw [List.getElem?_map, List.getD_eq_getElem?_getD, List.getElem?_eq_getElem h]
  rfl
def timesV (least : Int) (k : Nat) : List V := (List.range k).map fun (i : Nat) => V.int (least + (i : Int))
theorem at_time {least : Int} {k i : Nat} (h : i < k) : atI (timesV least k) (i : Int) = some (.int (least + (i : Int))) := by
  refine atI_nat ?_
  unfold timesV
  rw [List.getElem?_map, List.getElem?_eq_getElem (by rw [List.length_range]; exact h), List.getElem_range]
  rfl
theorem times_len (least : Int) (k : Nat) : (timesV least k).length = k := by
  unfold timesV
  rw [List.length_map, List.length_range]
section
variable {P : Program} {w : World} {K : PySem.W.Frag} {mg : Str → Option Value} {base : Heap}
def sp_row_right (C : Addr) : Sp := fun vs H Q _ => ∃ (n pr tm : Addr) (ns : List Str) (ls : List Lk) (l : Lk) (u v d : Str) (l0 least : Int) (k : Nat), vs = [.ref n, .str l.1, .str l.2.1, .ref pr, .str d, .ref tm] ∧ NetAt C H n ns ls ∧ l ∈ ls ∧ H pr = some (.tup [.str u, .str v]) ∧ H tm = some (.lst (timesV least k)) ∧ k ≤ 100 ∧
  (u, v, l0) ∈ edgesOf (ls.filter fun k => !samePair l.1 l.2.1 k) ∧ u ∈ ns ∧ d ∈ ns ∧ 1 ≤ l.2.2.1 + least ∧ 1 ≤ l.2.2.2 + least ∧ ∀ H', Ex H H' → Q (.bl true) H'
theorem ok_row_right (T : TX K mg) : FnOk P w K mg base CX0 11 T.l_row_right.f T.l_row_right.d ["_law_net", "_law_a", "_law_b", "_law_pair", "_law_d", "_law_times"] (sp_row_right T.CN) := by
  have G1 : FnOk P w K mg base CX0 5 T.nexts.f T.nexts.d ["net", "a", "d"] (sp_nexts T.CN) := ok_nexts T
  have G2 : FnOk P w K mg base CX0 8 T.shifted.f T.shifted.d ["net", "a", "b", "t"] (sp_shifted T.CN) := ok_shifted T
  have G3 : FnOk P w K mg base CX0 10 T.point.f T.point.d ["net", "a", "b", "router", "d"] (sp_point T.CN) := ok_point T
  refine T.l_row_right.F.ok sc_l_row_right (fun vs H Q E h => ?_) (fun cdv A outer s H vs Q E hr h => ?_)
  · obtain ⟨n, pr, tm, ns, ls, l, u, v, d, l0, least, k, rfl, _⟩ := h
    rfl
  · obtain ⟨n, pr, tm, ns, ls, l, u, v, d, l0, least, k, rfl, hn, hl, hpr, htm, k100, he, hun, hdn, p1, p2, q⟩ := h
    have hu := hr.units
    refine ⟨_, pss_cons (ps_set (i := 6) sc_l_row_right.nd rfl (.inr rfl) (pe_lc (own := [("_law_t", 10)]) (g := gName 10) (tt := tYes) (te := tOp (rIn K false) (tOp (rIxT K) (tVar 3) (tC (.int 1))) (tCall (sp_nexts T.CN) [] E0 (tCons (tCall (sp_shifted T.CN) [] E0 (tCons (tVar 0) (tCons (tVar 1) (tCons (tVar 2) (tCons (tVar 10) tNil))))) (tCons (tOp (rIxT K) (tVar 3) (tC (.int 0))) (tCons (tVar 4) tNil))))) rfl sc_l_row_right.nd (pi_list (pv 5)) (blkOk_by (own := [("_law_t", 10)]) (N := N_l_row_right) (sc := defScope s_l_row_right) (by decide +kernel))
          (fun _ _ _ _ _ => pg_name (i := 10) sc_l_row_right.nd rfl (.inl rfl)) (fun _ _ _ _ _ => pts_nil)
          (fun _ _ _ _ _ => pe_cmpR op_in_seq (pe_ix ix_tup (pv 3) pe_int (fun _ _ => rfl)) (T.nexts.call G1 (hr.mono (by decide)) (pa_cons (T.shifted.call G2 (hr.mono (by decide)) (pa_cons (pv 0) (pa_cons (pv 1) (pa_cons (pv 2) (pa_cons (pv 10) pa_nil))))) (pa_cons (pe_ix ix_tup (pv 3) pe_int (fun _ _ => rfl)) (pa_cons (pv 4) pa_nil)))) (by rfl))))
      (pss_cons (ps_setLc (i := 8) (own := [("_law_at", 7)]) (g := gName 7) (tt := tTest (tOp rNe (tOp (rIxL K) (tVar 6) (tVar 7)) (tOp (rIxL K) (tVar 6) (tOp (rI0 fun i j => .int (i - j)) (tVar 7) (tC (.int 1)))))) (te := tVar 7) rfl sc_l_row_right.nd rfl rfl rfl (pi_range2 (by rfl) T.n_range (pa_cons pe_int (pa_cons (pe_callB call_len_seq (by rfl) T.n_len PySem.boot_len (pa_cons (pv 6) pa_nil)) pa_nil))) (blkOk_by (own := [("_law_at", 7)]) (N := N_l_row_right) (sc := defScope s_l_row_right) (by decide +kernel))
          (fun _ _ _ _ _ => pg_name (i := 7) sc_l_row_right.nd rfl (.inl rfl)) (fun _ _ _ _ _ => pts_one (pt_cmpR op_ne (pe_ix ix_list (pv 6) (pv 7) (fun _ _ => rfl)) (pe_ix ix_list (pv 6) (pe_op op_sub (pv 7) pe_int) (fun _ _ => rfl)) (nomark _))) (fun _ _ _ _ _ => pv 7))
      (pss_cons (ps_if (pt_cmpR (op_eqD hu) (pv 8) (pe_lst pa_nil) (nomark _)) (pss_one (ps_ret pe_bl)) pss_nil)
      (pss_cons (ps_par (by rfl) sc_l_row_right.nd rfl rfl (by decide) rfl rfl (pa_cons (pe_ix ix_list (pv 8) pe_int (fun _ _ => rfl)) (pa_cons (T.point.call G3 hr (pa_cons (pv 0) (pa_cons (pv 1) (pa_cons (pv 2) (pa_cons (pe_ix ix_tup (pv 3) pe_int (fun _ _ => rfl)) (pa_cons (pv 4) pa_nil)))))) pa_nil)) (by rfl) (i := 7) (j := 9))
      (pss_cons (ps_if (PW.pt (pw_or (pt_cmpR op_gt (pe_callB call_len_seq (by rfl) T.n_len PySem.boot_len (pa_cons (pv 8) pa_nil)) pe_int (nomark _)) (pw_or1 (pt_cmpR op_isN (pv 9) pe_non (nomark _))))) (pss_one (ps_ret pe_bl)) pss_nil)
      (pss_one (ps_ret (pe_cmpR op_eq (pv 9) (pe_ifExp (pt_val (pe_ix ix_list (pv 6) pe_int (fun _ _ => rfl))) (pe_ix ix_list (pv 5) (pe_op op_sub (pv 7) pe_int) (fun _ _ => rfl)) (pe_ix ix_list (pv 5) (pv 7) (fun _ _ => rfl))) (nomark _)))))))), ?_⟩
    have kl : LinksOk ns (ls.filter fun k => !samePair l.1 l.2.1 k) := hn.links.sub List.filter_sublist
    have rl := row_law hn.links hl p1 p2 he (d := d) k
    have len := row_len (ls := ls) (l := l) (least := least) (u := u) (v := v) (d := d) (l0 := l0) (k := k)
    have bit : ∀ i, i < k → ((rowOf ls l least u v d l0 k).getD i false = true ↔ QM.Stand (shE ls l (least + (i : Int))) u v d l0) := fun i hi => row_iff hi
    generalize rowOf ls l least u v d l0 k = row at rl len bit
    have tl := times_len least k
    refine ⟨_, rfl, tm, rfl, ⟨_, tyL htm⟩, fun D nD => lcV (walk_list (xs := timesV least k)) (by rw [tl]; omega) (fun i => V.bl (row.getD i false)) nD (fun H' e => tyL (e _ _ htm)) (fun i x H1 H1' hi e1 y RT rt => ?_) (fun H1 e1 hD => ?_)⟩
    · obtain ⟨rfl, hx⟩ := y
      rw [tl] at hi
      have hx' : x = .int (least + (i : Int)) := by
        unfold timesV at hx
        rw [List.getElem?_map, List.getElem?_eq_getElem (by rw [List.length_range]; exact hi), List.getElem_range] at hx
        exact (Option.some.inj hx).symm
      subst hx'
      have hpr1 := e1 _ _ hpr
      refine ⟨rfl, _, rfl, pr, _, 1, .str v, rfl, rfl, tyT hpr1, rfl, _, rfl, _, rfl, _, rfl, _, rfl, n, ns, ls, l, _, rfl, hn.ex' e1, hl, by omega, by omega, fun n' ls' H3 e3 pm hn3 => ⟨_, rfl, pr, _, 0, .str u, rfl, rfl, tyT (e3 _ _ hpr1), rfl, _, rfl, n', ns, ls', u, d, rfl, hn3, hun, hdn, fun q4 H4 e4 hq4 => ⟨q4, _, rfl, .inr (tyT hq4), rfl, flat_strs _, ?_⟩⟩⟩
      have hb : inV (.str v) ((nextsOf ns (edgesOf ls') u d).map V.str) = row.getD i false := by
        rw [inV_str, Bool.eq_iff_iff, decide_eq_true_eq, bit i hi]
        exact row_bit hn3.links pm he
      show RT (.bl (inV (.str v) ((nextsOf ns (edgesOf ls') u d).map V.str))) H4
      rw [hb]
      exact rt H4 (e3.trans e4)
    · have hD' : H1 D = some (.lst (row.map V.bl)) := by
        rw [hD, tl, ← len]
        have := range_map_getD V.bl false row
        rw [this]
      have rlen : (row.map V.bl).length = k := by rw [List.length_map, len]
      refine ⟨_, rfl, D, _, rfl, .inl (tyL hD'), 1, _, rfl, ⟨by decide, by decide, by rw [rlen]; omega, by rw [rlen]; omega⟩, fun D2 nD2 => lcF (walk_range (lo := 1) (n := (((row.map V.bl).length : Int) - 1).toNat)) (by rw [rlen]; omega) (fun i => row.getD (1 + i) false != row.getD i false) (fun i => V.int (1 + (i : Int))) nD2 (fun _ _ => trivial) (fun i x H2 H2' hi e2 y RT RF rt rf => ?_) (fun H2 e2 hD2 => ?_)⟩
      · obtain ⟨rfl, rfl⟩ := y
        rw [rlen] at hi
        have a1 : atI (row.map V.bl) (1 + (i : Int)) = some (.bl (row.getD (1 + i) false)) := by
          have e : (1 + (i : Int)) = ((1 + i : Nat) : Int) := by omega
          rw [e]
          exact at_bl (by omega)
        have a0 : atI (row.map V.bl) (1 + (i : Int) - 1) = some (.bl (row.getD i false)) := by
          have e : (1 + (i : Int) - 1) = (i : Int) := by omega
          rw [e]
          exact at_bl (by omega)
        have hD3 := e2 _ _ hD'
        refine ⟨rfl, _, rfl, _, rfl, D, _, _, _, rfl, rfl, tyL hD3, a1, _, rfl, _, rfl, _, 1, rfl, rfl, D, _, _, _, rfl, rfl, tyL hD3, a0, rfl, _, rfl, ?_⟩
        rw [ne_bl]
        show if (row.getD (1 + i) false != row.getD i false) = true then _ else _
        cases hc : (row.getD (1 + i) false != row.getD i false) with
        | true => exact iteT ⟨_, rfl, rt hc _ (Evl.Ex.refl _)⟩
        | false => exact iteF (rf hc _ (Evl.Ex.refl _))
      · have hts : H2 D2 = some (.lst (((QM.turnsOf row).map fun (c : Nat) => (c : Int)).map V.int)) := by
          have e : (((row.map V.bl).length : Int) - 1).toNat = row.length - 1 := by rw [rlen, len]; omega
          rw [hD2, e, turns_at, List.map_map]
          rfl
        have e02 := e1.trans e2
        refine ⟨_, rfl, sz0, fun E nE => ?_⟩
        have x2 : Ex H2 (upd H2 E (.lst [])) := Ex.new nE
        have hE : (upd H2 E (.lst [])) E = some (.lst []) := upd_same
        have hts3 := x2 _ _ hts
        have e03 := e02.trans x2
        generalize (upd H2 E (.lst [])) = H3 at hE hts3 e03 x2 ⊢
        refine ⟨.list (((QM.turnsOf row).map fun (c : Nat) => (c : Int)).map PyData.int), .list [], .lst (tyL hts3) (dp_ints _), .lst (tyL hE) .nil, sh_ints _, sh_ints [], _, rfl, ?_⟩
        rw [eq_nilL]
        rcases rl with ht | ⟨c, x, ht, c1, c2, hpt, hx⟩
        · rw [ht]
          exact iteT (q H3 e03)
        · rw [ht] at hts3 ⊢
          refine iteF ?_
          have hpr3 := e03 _ _ hpr
          refine ⟨_, rfl, D2, _, 0, .int (c : Int), rfl, rfl, tyL hts3, rfl, _, rfl, _, rfl, _, rfl, _, rfl, pr, _, 0, .str u, rfl, rfl, tyT hpr3, rfl, _, rfl, n, ns, ls, l, u, d, rfl, hn.ex' e03, hl, hun, hdn, fun H4 e4 => ⟨_, _, rfl, ?_⟩⟩
          rw [hpt]
          have hts4 := e4 _ _ hts3
          have hD4 := e4 _ _ (x2 _ _ (e2 _ _ hD'))
          have htm4 := e4 _ _ (e03 _ _ htm)
          refine ⟨_, rfl, D2, _, rfl, .inl (tyL hts4), _, 1, rfl, rfl, false, rfl, iteF ⟨_, rfl, rfl, false, rfl, iteF ?_⟩⟩
          have a0 : atI (row.map V.bl) 0 = some (.bl (row.getD 0 false)) := at_bl (i := 0) (by omega)
          refine ⟨_, rfl, _, rfl, D, _, 0, _, rfl, rfl, tyL hD4, a0, _, rfl, ?_⟩
          have qq := q H4 (e03.trans e4)
          cases hb : row.getD 0 false with
          | true =>
            rw [hb, if_pos rfl] at hx
            have a1 : atI (timesV least k) ((c : Int) - 1) = some (.int (least + ((c : Int) - 1))) := by
              have e : ((c : Int) - 1) = ((c - 1 : Nat) : Int) := by omega
              rw [e]
              exact at_time (by omega)
            refine iteT ⟨_, rfl, _, rfl, _, 1, rfl, rfl, tm, _, _, _, rfl, rfl, tyL htm4, a1, rfl, ?_⟩
            show Q (.bl (decide (V.int x = V.int (least + ((c : Int) - 1))))) H4
            rw [decide_eq_true (congrArg V.int hx)]
            exact qq
          | false =>
            rw [hb, if_neg Bool.false_ne_true] at hx
            have a1 : atI (timesV least k) (c : Int) = some (.int (least + (c : Int))) := at_time (by omega)
            refine iteF ⟨_, rfl, _, rfl, tm, _, _, _, rfl, rfl, tyL htm4, a1, rfl, ?_⟩
            show Q (.bl (decide (V.int x = V.int (least + (c : Int))))) H4
            rw [decide_eq_true (congrArg V.int hx)]
            exact qq
end
end QT
namespace QT
open PySem PySem.Spec PyProof.Rows L2 QS QR
open Evl (Ex)
theorem sh_intsT (xs : List Int) : SeqAt.shaped (.tuple (xs.map PyData.int)) = true := by
  unfold SeqAt.shaped
  rw [Bool.and_eq_true]
  refine ⟨lay_ints xs, decide_eq_true ?_⟩
  have := deep_ints xs
  simp only [PyData.depth]
  omega
theorem ne_nilT (xs : List PyData) : (!PyData.eqv (.tuple xs) (.tuple [])) = !xs.isEmpty := by rw [eq_nilT]
theorem two_prs {r a b : Pr} : ([prD a, prD b].any fun z => PyData.eqv z (prD r)) = decide (r = a ∨ r = b) := by
  show (PyData.eqv (prD a) (prD r) || (PyData.eqv (prD b) (prD r) || false)) = _
  rw [eqv_prD, eqv_prD, Bool.or_false, Bool.eq_iff_iff, Bool.or_eq_true, decide_eq_true_eq, decide_eq_true_eq, decide_eq_true_eq]
  exact ⟨fun h => h.elim (fun e => .inl e.symm) fun e => .inr e.symm, fun h => h.elim (fun e => .inl e.symm) fun e => .inr e.symm⟩
/-- an edge of another pair is an edge of the rest -/
theorem edge_rest {ns : List Str} {ls : List Lk} (lk : LinksOk ns ls) {l : Lk} {u v : Str} {n : Int} (h : (u, v, n) ∈ edgesOf ls) (h1 : ¬ ((u, v) = (l.1, l.2.1) ∨ (u, v) = (l.2.1, l.1))) : (u, v, n) ∈ edgesOf (ls.filter fun k => !samePair l.1 l.2.1 k) := by
  obtain ⟨m, hm, h⟩ := mem_edges.mp h
  refine mem_edges.mpr ⟨m, List.mem_filter.mpr ⟨hm, ?_⟩, h⟩
  unfold samePair
  rw [Bool.not_eq_true', decide_eq_false_iff_not]
  rintro ⟨e1, e2⟩
  rcases h with h | h
  · injection h with a1 h
    injection h with a2 _
    exact h1 (.inl (by rw [a1, a2, e1, e2]))
  · injection h with a1 h
    injection h with a2 _
    exact h1 (.inr (by rw [a1, a2, e1, e2]))
theorem sh_two {a b : Str} (h : OkP a b) : SeqAt.shaped (.tuple [prD (a, b), prD (b, a)]) = true := by simp [SeqAt.shaped, PyData.canLay0, PyData.canLayAll0, PyData.depth, PyData.depthAll, h.1, h.2]
theorem last_at (ms : List Int) (h : ms ≠ []) : ∃ x, atI (ms.map V.int) (-1) = some (.int x) := by
  obtain ⟨ini, x, rfl⟩ : ∃ ini x, ms = ini ++ [x] := ⟨_, _, (List.dropLast_concat_getLast h).symm⟩
  refine ⟨x, ?_⟩
  rw [List.map_append]
  exact atI_last (ini.map V.int) (V.int x)
section
variable {P : Program} {w : World} {K : PySem.W.Frag} {mg : Str → Option Value} {base : Heap}
theorem r_same {J : It} {D L : Addr} {qs : List Addr} {ls : List Lk} {σ : L2.St} {i j k : Nat} {vs : List Nat} {a b : Str} {H1 : Hp} {Qd : Hp → Prop} (hJ : J = Itt K L) (hL : H1 L = some (.tup (qs.map V.ref))) (hq : LinksAt H1 qs ls) (few : ls.length ≤ 1000) (ok : ∀ l ∈ ls, OkP l.1 l.2.1) (oa : OkP a b) (hD : H1 D = none)
    (hi : ∀ q : Addr, ((wipe σ vs).set i (some (.ref q)))[i]? = some (some (.ref q))) (hj : ∀ q : Addr, ((wipe σ vs).set i (some (.ref q)))[j]? = some (some (.str a))) (hk : ∀ q : Addr, ((wipe σ vs).set i (some (.ref q)))[k]? = some (some (.str b))) (hw : ∀ q : Addr, wipe ((wipe σ vs).set i (some (.ref q))) vs = wipe σ vs)
    (hd : ∀ H' qs', Ex H1 H' → H' D = some (.lst (qs'.map V.ref)) → LinksAt H' qs' (ls.filter fun l => samePair a b l) → Qd H') :
    ∃ W : Nat → Nat → Hp → Prop, (∃ m, W 0 m (upd H1 D (.lst []))) ∧ ∀ i' m H, W i' m H →
      (J.stop i' H ∧ Qd H) ∨ (J.go i' H ∧ ∃ Nx : Hp → Prop, (∀ H', Nx H' → ∃ m', m' < m ∧ W (i' + 1) m' H') ∧ ∀ x H', J.yld i' H x H' → gName i x (wipe σ vs) H' fun σ2 H2 => wipe σ2 vs = wipe σ vs ∧ tEqP K i j k σ2 H2 fun b H3 =>
        if b = true then tVar i σ2 H3 fun y H4 => ∃ acc, H4 D = some (.lst acc) ∧ acc.length < sizeLine ∧ Nx (upd H4 D (.lst (acc ++ [y]))) else Nx H3) := by
  subst hJ
  have lq : qs.length = ls.length := paired_len hq
  refine lcF (walk_tup (xs := qs.map V.ref)) (by rw [List.length_map]; omega) (fun i => (fun l => samePair a b l) (ls.getD i lk0)) (fun i => V.ref (qs.getD i 0)) hD (fun H' e => tyT (e _ _ hL)) (fun i' x H2 H2' hi' e y RT RF rt rf => ?_) (fun H' e hD' => ?_)
  · obtain ⟨rfl, hx⟩ := y
    obtain ⟨q, l, rfl, h1, h2, h3⟩ := links_get hq hx
    rw [getD_of h1, getD_of h3] at rt
    rw [getD_of h1] at rf
    refine ⟨hw q, t_eq (hi q) (hj q) (hk q) (e _ _ h2) (ok l (List.mem_of_getElem? h1)) oa fun H3 e3 => ?_⟩
    show if (samePair a b l) = true then _ else _
    cases hc : (samePair a b l) with
    | true => exact iteT ⟨_, hi q, rt hc _ e3⟩
    | false => exact iteF (rf hc _ e3)
  · obtain ⟨qs', e1, e2⟩ := kept_paired (linksAt_mono (fun a xs z => e _ _ z) hq) fun l => samePair a b l
    rw [List.length_map, e1] at hD'
    exact hd H' qs' e hD' e2
def sp_case_right : Sp := fun vs H Q _ => ∃ (p : Addr) (c : Nat), vs = [.ref p] ∧ PotAt H p c ∧ c ≤ 100000 ∧ ∀ H', Exp p H H' → Q (.bl true) H'
theorem ok_case_right (T : TX K mg) : FnOk P w K mg base CX0 12 T.l_case_right.f T.l_case_right.d ["_law_pot_here"] sp_case_right := by
  have G1 : FnOk P w K mg base CX0 5 T.l_link_of.f T.l_link_of.d ["_law_pot_here", "_law_least", "_law_most", "_law_more"] sp_l_link_of := ok_l_link_of T
  have G2 : FnOk P w K mg base CX0 7 T.l_made.f T.l_made.d ["_law_world_here"] (sp_l_made T.CN) := ok_l_made T
  have G3 : FnOk P w K mg base CX0 1 T.l_lengths.f T.l_lengths.d ["_law_links"] sp_l_lengths := ok_l_lengths T
  have G4 : FnOk P w K mg base CX0 10 T.points.f T.points.d ["net", "a", "b"] (sp_points T.CN) := ok_points T
  have G5 : FnOk P w K mg base CX0 2 T.l_of.f T.l_of.d ["_law_pot_here", "_law_some"] (sp_l_of K) := ok_l_of T
  have G6 : FnOk P w K mg base CX0 11 T.l_row_right.f T.l_row_right.d ["_law_net", "_law_a", "_law_b", "_law_pair", "_law_d", "_law_times"] (sp_row_right T.CN) := ok_row_right T
  refine T.l_case_right.F.ok sc_l_case_right (fun vs H Q E h => ?_) (fun cdv A outer s H vs Q E hr h => ?_)
  · obtain ⟨p, c, rfl, _⟩ := h
    rfl
  · obtain ⟨p, c, rfl, hp, c1, q⟩ := h
    have hu := hr.units
    have hu66 : (A.deeper (envOfC "_law_case_right" (defScope s_l_case_right) s.heap.objs.size T.l_case_right.f cdv)).units + 66 < cLine := by have := hr.un; omega
    refine ⟨_, pss_cons (ps_asg (T.l_link_of.call G1 (hr.mono (by decide)) (pa_cons (pv 0) (pa_cons pe_int (pa_cons pe_int (pa_cons pe_int pa_nil))))) (pg_tup rfl (pgs_cons (pg_name (i := 1) sc_l_case_right.nd rfl (.inl rfl)) (pgs_cons (pg_name (i := 2) sc_l_case_right.nd rfl (.inr rfl)) (pgs_cons (pg_name (i := 3) sc_l_case_right.nd rfl (.inr rfl)) pgs_nil)))))
      (pss_cons (ps_par (by rfl) sc_l_case_right.nd rfl rfl (by decide) rfl rfl (pa_cons (T.l_made.call G2 (hr.mono (by decide)) (pa_cons (pv 1) pa_nil)) (pa_cons (pe_ix ix_list (pe_lc (own := [("_law_one", 13)]) (g := gName 13) (tt := tEqP K 13 2 3) (te := tVar 13) rfl sc_l_case_right.nd (pi_tup (pe_ix ix_tup (pv 1) pe_int (fun _ _ => rfl))) (blkOk_by (own := [("_law_one", 13)]) (N := N_l_case_right) (sc := defScope s_l_case_right) (by decide +kernel))
            (fun _ _ _ _ _ => pg_name (i := 13) sc_l_case_right.nd rfl (.inl rfl)) (fun _ _ _ _ _ => pts_one (pt_cmpR (op_eqD (by exact hu)) (pe_slice sl_tup (pv 13) po_none (po_some pe_int)) (pe_tup (pa_cons (pv 2) (pa_cons (pv 3) pa_nil))) (nomark _))) (fun _ _ _ _ _ => pv 13)) pe_int (fun _ _ => rfl)) pa_nil)) (by rfl) (i := 4) (j := 5))
      (pss_cons (ps_setLc (i := 7) (own := [("_law_pair", 6)]) (g := gName 6) (tt := tTest (tOp (rNotInT K) (tVar 6) (tTup (tCons (tTup (tCons (tVar 2) (tCons (tVar 3) tNil))) (tCons (tTup (tCons (tVar 3) (tCons (tVar 2) tNil))) tNil))))) (te := tVar 6) rfl sc_l_case_right.nd rfl rfl rfl (pi_list (pe_callTy (call_list_dT rfl) (by rfl) T.n_list boot_list' (pa_cons (T.l_lengths.call G3 (hr.mono (by decide)) (pa_cons (pe_ix ix_tup (pv 1) pe_int (fun _ _ => rfl)) pa_nil)) pa_nil))) (blkOk_by (own := [("_law_pair", 6)]) (N := N_l_case_right) (sc := defScope s_l_case_right) (by decide +kernel))
            (fun _ _ _ _ _ => pg_name (i := 6) sc_l_case_right.nd rfl (.inl rfl)) (fun _ _ _ _ _ => pts_one (pt_cmpR (op_notInT (by exact hu66)) (pv 6) (pe_tup (pa_cons (pe_tup (pa_cons (pv 2) (pa_cons (pv 3) pa_nil))) (pa_cons (pe_tup (pa_cons (pv 3) (pa_cons (pv 2) pa_nil))) pa_nil))) (by rfl))) (fun _ _ _ _ _ => pv 6))
      (pss_cons (ps_par (by rfl) sc_l_case_right.nd rfl rfl (by decide) rfl rfl (pa_cons (pe_op op_sub pe_int (pe_callB (call_min2 rfl) (by rfl) T.n_min boot_min' (pa_cons (pe_callTy call_int1 (by rfl) T.n_int boot_int' (pa_cons (pe_ix ix_tup (pv 5) pe_int (fun _ _ => rfl)) pa_nil)) (pa_cons (pe_callTy call_int1 (by rfl) T.n_int boot_int' (pa_cons (pe_ix ix_tup (pv 5) pe_int (fun _ _ => rfl)) pa_nil)) pa_nil)))) (pa_cons (T.points.call G4 (hr.mono (by decide)) (pa_cons (pv 4) (pa_cons (pv 2) (pa_cons (pv 3) pa_nil)))) pa_nil)) (by rfl) (i := 8) (j := 9))
      (Evl.pss_cut (ps_set (i := 10) sc_l_case_right.nd rfl (.inl rfl) (pe_ifExp (PW.pt (pw_and (pt_cmpR (op_neD hu) (pv 9) (pe_tup pa_nil) (nomark _)) (pw_and1 (pt_cmpR op_gt (pe_ix ix_tup (pv 9) (pe_un un_neg pe_int) (fun _ _ => rfl)) (pv 8) (nomark _))))) (pe_op op_add (pe_ix ix_tup (pv 9) (pe_un un_neg pe_int) (fun _ _ => rfl)) pe_int) (pe_op op_add (pv 8) pe_int)))
      (pss_cons (ps_set (i := 11) sc_l_case_right.nd rfl (.inl rfl) (pe_listRg rfl (by rfl) T.n_list (prg_2 (by rfl) T.n_range (pv 8) (pe_op op_add (pe_callB (call_min2 rfl) (by rfl) T.n_min boot_min' (pa_cons (pe_callTy call_int1 (by rfl) T.n_int boot_int' (pa_cons (pv 10) pa_nil)) (pa_cons (pe_op op_add (pv 8) pe_int) pa_nil))) pe_int))))
      (pss_cons (ps_if (pt_cmpR (op_eqD hu) (pv 7) (pe_lst pa_nil) (nomark _)) (pss_one (ps_ret pe_bl)) pss_nil)
      (pss_cons (ps_for PassesOwn.never rfl (pi_range1 (by rfl) T.n_range (pa_cons pe_int pa_nil)) (pg_name (i := 12) sc_l_case_right.nd rfl (.inl rfl))
        (pss_cons (ps_set (i := 6) sc_l_case_right.nd rfl (.inl rfl) (T.l_of.call G5 (hr.mono (by decide)) (pa_cons (pv 0) (pa_cons (pv 7) pa_nil))))
        (pss_one (ps_if (pt_not (pt_val (T.l_row_right.call G6 hr (pa_cons (pv 4) (pa_cons (pv 2) (pa_cons (pv 3) (pa_cons (pv 6) (pa_cons (T.l_of.call G5 (hr.mono (by decide)) (pa_cons (pv 0) (pa_cons (pe_ix ix_tup (pv 1) pe_int (fun _ _ => rfl)) pa_nil))) (pa_cons (pv 11) pa_nil))))))))) (pss_one (ps_ret pe_bl)) pss_nil))))
      (pss_one (ps_ret pe_bl))))))))), ?_⟩
    refine ⟨_, rfl, p, c, 3, 5, 4, rfl, hp, by omega, by decide, by decide, by decide, by decide, by decide, fun t wd ns ls l H1 e1 hp1 hw1 hl ht => ?_⟩
    refine ⟨t, _, rfl, tyT ht, rfl, _, _, rfl, _, _, rfl, _, _, rfl, rfl, ?_⟩
    have lo := hw1.links.each l hl
    have low := hw1.low l hl
    have most := hw1.links.most
    have okl := hw1.links.okP hw1.names hl
    -- the net and the link
    refine ⟨_, rfl, wd, ns, ls, rfl, hw1, fun n H2 e2 hn2 => ?_⟩
    have hw2 := hw1.mono fun a xs z => e2 _ _ z
    obtain ⟨R, L, qs, n1, n2, n3, n4⟩ := hw2.ex
    refine ⟨_, rfl, wd, _, 1, .ref L, rfl, rfl, tyT n1, rfl, L, rfl, ⟨_, tyT n3⟩, fun D nD => r_same rfl n3 n4 (by omega) (fun l hl => hw1.links.okP hw1.names hl) okl nD (fun _ => rfl) (fun _ => rfl) (fun _ => rfl) (fun _ => rfl) (fun H3 qs' e3 hD hq' => ?_)⟩
    obtain ⟨q0, hq0, hq0'⟩ : ∃ q0, atI (qs'.map V.ref) 0 = some (.ref q0) ∧ H3 q0 = some (.tup (lkV l)) := by
      have hm : l ∈ ls.filter fun k => samePair l.1 l.2.1 k := List.mem_filter.mpr ⟨hl, by unfold samePair; exact decide_eq_true ⟨rfl, rfl⟩⟩
      have len := paired_len hq'
      have pos : 0 < (ls.filter fun k => samePair l.1 l.2.1 k).length := List.length_pos_of_mem hm
      have hj : qs'[0]? = some (qs'[0]'(by omega)) := List.getElem?_eq_getElem (by omega)
      obtain ⟨m, hm0, hm1⟩ := paired_get hq' 0 hj
      obtain ⟨g1, g2⟩ := List.mem_filter.mp (List.mem_of_getElem? hm0)
      unfold samePair at g2
      rw [decide_eq_true_eq] at g2
      have : m = l := hw1.links.one g1 hl g2.1 g2.2
      rw [this] at hm1
      refine ⟨_, atI_nat (j := 0) ?_, hm1⟩
      rw [List.getElem?_map, hj]
      rfl
    refine ⟨D, _, 0, _, rfl, rfl, tyL hD, hq0, _, _, rfl, ?_⟩
    have e23 := e2.trans e3
    -- the pairs
    refine ⟨_, rfl, wd, _, 1, .ref L, rfl, rfl, tyT (e3 _ _ n1), rfl, L, qs, ns, ls, rfl, e3 _ _ n3, linksAt_mono (fun a xs z => e3 _ _ z) n4, hw1.links, fun dp H4 ndp e4 hdp => ⟨dp, _, rfl, .inl hdp, fun kp bs nkp ik => ?_⟩⟩
    have x5 : Ex H4 (upd H4 kp (.lst (bs.map V.ref))) := Ex.new nkp
    have hkp : (upd H4 kp (.lst (bs.map V.ref))) kp = some (.lst (bs.map V.ref)) := upd_same
    have ik5 : IsKeys (upd H4 kp (.lst (bs.map V.ref))) (dictE (edgesOf ls)) bs := Paired.mapP ik fun a b z => x5 _ _ z
    have e05 := (e23.trans e4).trans x5
    have e35 := e4.trans x5
    generalize (upd H4 kp (.lst (bs.map V.ref))) = H5 at hkp ik5 e05 e35 ⊢
    have lbs : bs.length ≤ 32 := by
      have h1 := paired_len ik5
      have h2 := dict_len hw1.links ls.length
      rw [List.take_length] at h2
      omega
    refine ⟨kp, rfl, ⟨_, tyL hkp⟩, fun D3 nD3 => walk_W (walk_list (xs := bs.map V.ref)) (fun i H' => Ex H5 H' ∧ ∃ qr rs, H' D3 = some (.lst (qr.map V.ref)) ∧ PrsAt H' qr rs ∧ rs.length ≤ i ∧ ∀ r ∈ rs, ∃ l0, (r.1, r.2, l0) ∈ edgesOf (ls.filter fun k => !samePair l.1 l.2.1 k)) ⟨Ex.new nD3, [], [], upd_same, .nil, Nat.le_refl _, fun r hr => by cases hr⟩ (fun i H' _ pv => tyL (pv.1 _ _ hkp)) (fun i x H6 H6' hi pv y => ?_) (fun H6 pv => ?_)⟩
    · obtain ⟨e6, qr, rs, hD3, hqr, lr, hrs⟩ := pv
      obtain ⟨rfl, hx⟩ := y
      rw [List.length_map] at hi
      rw [List.getElem?_map, List.getElem?_eq_getElem hi] at hx
      obtain rfl : V.ref bs[i] = x := Option.some.inj hx
      obtain ⟨ed, hed, hb⟩ : ∃ ed, ed ∈ edgesOf ls ∧ H5 bs[i] = some (.tup [.str ed.1, .str ed.2.1]) := by
        have l1 := paired_len ik5
        have hi' : i < (dictE (edgesOf ls)).length := by omega
        obtain ⟨b, h1, h2⟩ := paired_get ik5 i (List.getElem?_eq_getElem hi')
        rw [List.getElem?_eq_getElem hi] at h1
        obtain rfl := Option.some.inj h1
        unfold dictE at hi' h2
        rw [List.length_map] at hi'
        rw [List.getElem_map] at h2
        exact ⟨_, List.getElem_mem hi', h2⟩
      obtain ⟨u, v, l0⟩ := ed
      have hb6 := e6 _ _ hb
      have ouv : OkP u v := hw1.names.okP (edges_in hw1.links u v l0 hed) (edges_in2 hw1.links hed)
      refine ⟨rfl, _, rfl, _, rfl, _, rfl, sz2, fun t1 nt1 => ⟨_, rfl, _, rfl, sz2, fun t2 nt2 => ⟨sz2, fun t3 nt3 => ?_⟩⟩⟩
      have y1 : Ex H6' (upd H6' t1 (.tup [.str l.1, .str l.2.1])) := Ex.new nt1
      have y2 := ex_upd (o := .tup [.str l.2.1, .str l.1]) y1 (Evl.fresh_back y1 nt2)
      have k1 : (upd (upd H6' t1 (.tup [.str l.1, .str l.2.1])) t2 (.tup [.str l.2.1, .str l.1])) t1 = some (.tup [.str l.1, .str l.2.1]) := by
        rw [upd_ne (ne_of_none (upd_same : (upd H6' t1 (.tup [.str l.1, .str l.2.1])) t1 = _) nt2)]
        exact upd_same
      have k2 : (upd (upd H6' t1 (.tup [.str l.1, .str l.2.1])) t2 (.tup [.str l.2.1, .str l.1])) t2 = some (.tup [.str l.2.1, .str l.1]) := upd_same
      generalize (upd (upd H6' t1 (.tup [.str l.1, .str l.2.1])) t2 (.tup [.str l.2.1, .str l.1])) = H7 at y2 k1 k2 nt3 ⊢
      have y3 : Ex H7 (upd H7 t3 (.tup [.ref t1, .ref t2])) := Ex.new nt3
      have k3 : (upd H7 t3 (.tup [.ref t1, .ref t2])) t3 = some (.tup [.ref t1, .ref t2]) := upd_same
      have y13 := y2.trans y3
      have k1' := y3 _ _ k1
      have k2' := y3 _ _ k2
      generalize (upd H7 t3 (.tup [.ref t1, .ref t2])) = H8 at y13 k1' k2' k3 ⊢
      have hb8 := y13 _ _ hb6
      refine ⟨prD (u, v), [prD (l.1, l.2.1), prD (l.2.1, l.1)], .tup (tyT hb8) (.cons (.str _) (.cons (.str _) .nil)), .tup (tyT k3) (.cons (.tup (tyT k1') (.cons (.str _) (.cons (.str _) .nil))) (.cons (.tup (tyT k2') (.cons (.str _) (.cons (.str _) .nil))) .nil)), shP ouv, sh_two okl, _, rfl, ?_⟩
      rw [two_prs]
      show if (!decide ((u, v) = (l.1, l.2.1) ∨ (u, v) = (l.2.1, l.1))) = true then _ else _
      by_cases hc : (u, v) = (l.1, l.2.1) ∨ (u, v) = (l.2.1, l.1)
      · rw [decide_eq_true hc]
        exact iteF ⟨e6.trans y13, qr, rs, y13 _ _ hD3, hqr.mono fun a xs z => y13 _ _ z, Nat.le_succ_of_le lr, hrs⟩
      · rw [decide_eq_false hc]
        have hD8 := y13 _ _ hD3
        have lqr : qr.length = rs.length := paired_len hqr
        have kt : ∀ a xs, H8 a = some (.tup xs) → (upd H8 D3 (.lst (qr.map V.ref ++ [.ref bs[i]]))) a = some (.tup xs) := fun a xs z => by
          rw [upd_ne (ne_of z hD8 (by intro z; cases z))]
          exact z
        refine iteT ⟨_, rfl, _, hD8, smallT (by rw [List.length_map]; omega), ex_upd (e6.trans y13) nD3, qr ++ [bs[i]], rs ++ [(u, v)], by rw [upd_same, List.map_append]; rfl, paired_snoc ((hqr.mono fun a xs z => y13 _ _ z).mono kt) (kt _ _ hb8), by rw [List.length_append]; exact Nat.succ_le_succ lr, fun r hr => ?_⟩
        rcases List.mem_append.mp hr with z | z
        · exact hrs r z
        · rw [List.mem_singleton.mp z]
          exact ⟨l0, edge_rest hw1.links hed hc⟩
    · obtain ⟨e6, qr, rs, hD3, hqr, lr, hrs⟩ := pv
      rw [List.length_map] at lr
      have e16 := e05.trans e6
      have e36 := e35.trans e6
      have hq6 := e36 _ _ hq0'
      have hn6 := hn2.ex' (e3.trans e36)
      have hw6 := hw1.mono fun a xs z => e16 _ _ z
      have hp6 := hp1.ex' e16
      have E06 := e1.trans (Exp.of e16)
      have D3p : D3 ≠ p := (fresh_exp (e1.trans (Exp.of e05)) (hp1.ex' e05) nD3).2
      -- the least shift and the points
      refine ⟨_, rfl, q0, _, 2, .int l.2.2.1, rfl, rfl, tyT hq6, rfl, .inl ⟨_, rfl, _, rfl, q0, _, 3, .int l.2.2.2, rfl, rfl, tyT hq6, rfl, .inl ⟨_, rfl, l.2.2.1, l.2.2.2, rfl, 1, _, rfl, rfl, _, rfl, _, rfl, _, rfl, n, ns, ls, l, rfl, hn6, hl, hw1.few, fun sp ms H7 e7 hsp lms => ⟨_, _, rfl, ?_⟩⟩⟩⟩
      have lst : 1 ≤ l.2.2.1 + (1 - (if l.2.2.2 < l.2.2.1 then l.2.2.2 else l.2.2.1)) ∧ 1 ≤ l.2.2.2 + (1 - (if l.2.2.2 < l.2.2.1 then l.2.2.2 else l.2.2.1)) ∧ -99 ≤ 1 - (if l.2.2.2 < l.2.2.1 then l.2.2.2 else l.2.2.1) ∧ 1 - (if l.2.2.2 < l.2.2.1 then l.2.2.2 else l.2.2.1) ≤ 0 := by
        obtain ⟨_, _, _, g1, g2⟩ := lo
        obtain ⟨g3, g4⟩ := low
        split <;> omega
      obtain ⟨least, hle⟩ : ∃ least, least = 1 - (if l.2.2.2 < l.2.2.1 then l.2.2.2 else l.2.2.1) := ⟨_, rfl⟩
      rw [← hle] at lst
      refine ⟨fun σ H' => ∃ last, least + 3 ≤ last ∧ Ex H7 H' ∧ σ = [some (.ref p), some (.ref wd), some (.str l.1), some (.str l.2.1), some (.ref n), some (.ref q0), none, some (.ref D3), some (.int least), some (.ref sp), some (.int last), none, none, none], ?_, fun σ H8 pv => ?_⟩
      · have st : (some (V.int (1 - (if l.2.2.2 < l.2.2.1 then l.2.2.2 else l.2.2.1)))) = some (V.int least) := by rw [hle]
        have last : ∀ (x : Int) (H' : Hp), least + 3 ≤ x → Ex H7 H' → ∃ last, least + 3 ≤ last ∧ Ex H7 H' ∧ [some (V.ref p), some (.ref wd), some (.str l.1), some (.str l.2.1), some (.ref n), some (.ref q0), none, some (.ref D3), some (.int (1 - (if l.2.2.2 < l.2.2.1 then l.2.2.2 else l.2.2.1))), some (.ref sp), some (.int x), none, none, none] = [some (.ref p), some (.ref wd), some (.str l.1), some (.str l.2.1), some (.ref n), some (.ref q0), none, some (.ref D3), some (.int least), some (.ref sp), some (.int last), none, none, none] := fun x H' h1 h2 => ⟨x, h1, h2, by rw [st]⟩
        refine ⟨_, rfl, sz0, fun E nE => ?_⟩
        have x7 : Ex H7 (upd H7 E (.tup [])) := Ex.new nE
        have hsp7 := x7 _ _ hsp
        refine ⟨.tuple (ms.map PyData.int), .tuple [], .tup (tyT hsp7) (dp_ints ms), .tup (tyT upd_same) .nil, sh_intsT ms, sh_intsT [], _, rfl, ?_⟩
        rw [ne_nilT]
        by_cases me : ms = []
        · subst me
          exact iteF (iteF ⟨_, rfl, _, 3, rfl, rfl, last _ _ (by rw [hle]; exact Int.le_refl _) x7⟩)
        · have em : (!(ms.map PyData.int).isEmpty) = true := by
            cases ms with
            | nil => exact absurd rfl me
            | cons _ _ => rfl
          rw [em]
          obtain ⟨x, hx⟩ := last_at ms me
          refine iteT ⟨_, rfl, 1, rfl, sp, _, -1, _, rfl, rfl, tyT hsp7, hx, _, rfl, x, _, rfl, rfl, _, rfl, ?_⟩
          by_cases cx : (1 - (if l.2.2.2 < l.2.2.1 then l.2.2.2 else l.2.2.1)) < x
          · rw [decide_eq_true cx]
            exact iteT ⟨_, rfl, 1, rfl, sp, _, -1, _, rfl, rfl, tyT hsp7, hx, _, 3, rfl, rfl, last _ _ (by rw [hle]; omega) x7⟩
          · rw [decide_eq_false cx]
            exact iteF ⟨_, rfl, _, 3, rfl, rfl, last _ _ (by rw [hle]; exact Int.le_refl _) x7⟩
      · obtain ⟨last, hlast, e8, rfl⟩ := pv
        have e78 := e7.trans e8
        obtain ⟨k, hk, k100⟩ : ∃ k : Nat, ((if least + 60 < last then least + 60 else last) + 1 - least).toNat = k ∧ k ≤ 100 := ⟨_, rfl, by split <;> omega⟩
        have rg : RgOk least ((if least + 60 < last then least + 60 else last) + 1) := by
          refine ⟨by omega, by omega, ?_, ?_, ?_⟩
          · split <;> omega
          · split <;> omega
          · rw [hk]; omega
        refine ⟨_, rfl, _, rfl, .inl ⟨_, rfl, _, rfl, _, 60, rfl, rfl, last, _, rfl, _, 1, rfl, rfl, least, _, rfl, rfl, rg, fun tm ntm => ?_⟩⟩
        have tv : rgV least ((if least + 60 < last then least + 60 else last) + 1) = timesV least k := by
          unfold rgV timesV
          rw [hk]
        rw [tv]
        have x8 : Ex H8 (upd H8 tm (.lst (timesV least k))) := Ex.new ntm
        have htm : (upd H8 tm (.lst (timesV least k))) tm = some (.lst (timesV least k)) := upd_same
        have e69 := e78.trans x8
        have tmp : tm ≠ p := (fresh_exp (E06.trans (Exp.of e78)) (hp6.ex' e78) ntm).2
        generalize (upd H8 tm (.lst (timesV least k))) = H9 at x8 htm e69 ⊢
        have okr : ∀ r ∈ rs, OkP r.1 r.2 := fun r hr => by
          obtain ⟨l0, h0⟩ := hrs r hr
          have kl : LinksOk ns (ls.filter fun k => !samePair l.1 l.2.1 k) := hw1.links.sub List.filter_sublist
          exact hw1.names.okP (edges_in kl _ _ _ h0) (edges_in2 kl h0)
        refine ⟨_, rfl, sz0, fun E nE => ?_⟩
        have x9 : Ex H9 (upd H9 E (.lst [])) := Ex.new nE
        have hE : (upd H9 E (.lst [])) E = some (.lst []) := upd_same
        have e6A := e69.trans x9
        have htmA := x9 _ _ htm
        generalize (upd H9 E (.lst [])) = HA at x9 hE e6A htmA ⊢
        have hD3A := e6A _ _ hD3
        have hqrA : PrsAt HA qr rs := hqr.mono fun a xs z => e6A _ _ z
        refine ⟨.list (rs.map prD), .list [], .lst (tyL hD3A) (dp_prs hqrA), .lst (tyL hE) .nil, sh_prs okr, sh_prs (rs := []) (fun r hr => by cases hr), _, rfl, ?_⟩
        rw [eq_nilL]
        have E0A := E06.trans (Exp.of e6A)
        by_cases re : rs = []
        · subst re
          exact iteT (q HA E0A)
        · have em : (rs.map prD).isEmpty = false := by
            cases rs with
            | nil => exact absurd rfl re
            | cons _ _ => rfl
          have pos : 0 < rs.length := List.length_pos_iff.mpr re
          have lqr : qr.length = rs.length := paired_len hqr
          rw [em]
          refine iteF ⟨4, rfl, by decide, by decide, for_range (n := 4) (fun i σ H' => Exp p H H' ∧ PotAt H' p (c + 220 + 2 * i) ∧ NetAt T.CN H' n ns ls ∧ WorldAt H' wd ns ls ∧ H' tm = some (.lst (timesV least k)) ∧ H' D3 = some (.lst (qr.map V.ref)) ∧ PrsAt H' qr rs ∧ ∃ a b, σ = [some (.ref p), some (.ref wd), some (.str l.1), some (.str l.2.1), some (.ref n), some (.ref q0), a, some (.ref D3), some (.int least), some (.ref sp), some (.int last), some (.ref tm), b, none]) ?_ (fun i σ HB hi pv => ?_) (fun σ HB pv => ?_)⟩
          · exact ⟨E0A, hp6.ex' e6A, hn6.ex' e6A, hw6.mono fun a xs z => e6A _ _ z, htmA, hD3A, hqrA, _, _, rfl⟩
          · obtain ⟨eB, hpB, hnB, hwB, htmB, hDB, hqB, a, b, rfl⟩ := pv
            obtain ⟨pz, hpz⟩ := hpB.lst
            refine ⟨_, rfl, _, rfl, p, _, rs.length, _, fun v => ∃ q1 r, v = .ref q1 ∧ r ∈ rs ∧ HB q1 = some (.tup [.str r.1, .str r.2]), rfl, hpB, by omega, pos, by omega, .inl ⟨D3, _, rfl, D3p, tyL hDB, by rw [List.length_map]; exact lqr, fun v hv => ?_⟩, fun v HC eC hpC hv => ?_⟩
            · obtain ⟨j, hj, e⟩ := List.getElem_of_mem hv
              rw [List.getElem_map] at e
              rw [List.length_map] at hj
              obtain ⟨r, h1, h2⟩ := paired_get hqB j (List.getElem?_eq_getElem hj)
              exact ⟨_, r, e.symm, List.mem_of_getElem? h1, h2⟩
            · obtain ⟨q1, r, rfl, hr, hq1⟩ := hv
              obtain ⟨l0, h0⟩ := hrs r hr
              obtain ⟨pzC, hpzC⟩ := hpC.lst
              have hwC := hwB.mono fun a xs z => eC.tup hpz z
              obtain ⟨RC, LC, qC, m1, m2, m3, m4⟩ := hwC.ex
              have kl : LinksOk ns (ls.filter fun k => !samePair l.1 l.2.1 k) := hw1.links.sub List.filter_sublist
              have nl := hw1.names.least
              have n7 := hw1.few
              refine ⟨_, rfl, _, rfl, _, rfl, _, rfl, _, rfl, _, rfl, wd, _, 0, .ref RC, rfl, rfl, tyT m1, rfl, p, _, ns.length, _, fun v => ∃ d, v = .str d ∧ d ∈ ns, rfl, hpC, by omega, by omega, by omega, .inr (.inl ⟨RC, _, rfl, tyT m2, List.length_map _, fun v hv => ?_⟩), fun v HD eD hpD hv => ?_⟩
              · obtain ⟨d, hd, e⟩ := List.mem_map.mp hv
                exact ⟨d, e.symm, hd⟩
              · obtain ⟨d, rfl, hd⟩ := hv
                have eBD := eC.trans eD
                have hnD := hnB.exp hpz eBD
                refine ⟨_, rfl, n, q1, tm, ns, ls, l, r.1, r.2, d, l0, least, k, rfl, hnD, hl, eBD.tup hpz hq1, eBD _ _ tmp htmB, k100, h0, edges_in kl _ _ _ h0, hd, lst.1, lst.2.1, fun HE eE => ⟨true, rfl, iteF ?_⟩⟩
                have eBE := eBD.trans (Exp.of eE)
                exact ⟨eB.trans eBE, (hpD.ex' eE).mono (by omega), hnD.ex' eE, (hwB.mono fun a xs z => eBE.tup hpz z), eBE _ _ tmp htmB, eBE _ _ D3p hDB, hqB.mono fun a xs z => eBE.tup hpz z, _, _, rfl⟩
          · obtain ⟨eB, _⟩ := pv
            exact q HB eB
end
end QT
namespace QT
open PySem PySem.Spec PyProof.Rows L2 QS QR
open Evl (Ex)
theorem pot_ne {H : Hp} {x D : Addr} {c : Nat} {ps : List Addr} (h : PotAt H x c) (hD : H D = some (.lst (ps.map V.ref))) : x ≠ D := fun z => by
  obtain ⟨a, b, d, e, _⟩ := h
  rw [z, hD] at e
  injection e with e
  injection e with e
  cases ps with
  | nil => cases e
  | cons q r => injection e with e _; cases e
theorem pot_ne_bl {H : Hp} {x D : Addr} {c : Nat} {bs : List Bool} (h : PotAt H x c) (hD : H D = some (.lst (bs.map V.bl))) : x ≠ D := fun z => by
  obtain ⟨a, b, d, e, _⟩ := h
  rw [z, hD] at e
  injection e with e
  injection e with e
  cases bs with
  | nil => cases e
  | cons q r => injection e with e _; cases e
section
variable {P : Program} {w : World} {K : PySem.W.Frag} {mg : Str → Option Value} {base : Heap}
def sp_l_pots (K : PySem.W.Frag) : Sp := fun vs H Q _ => ∃ (a : Addr) (ns : List Int) (m : Int), vs = [.ref a, .int m] ∧ SqL K H a (ns.map V.int) ∧ m ≤ 10 ∧ ∀ (q : Addr) (ps : List Addr) H', Ex H H' → H' q = some (.lst (ps.map V.ref)) → ps.Nodup → ps.length ≤ 10 → (∀ x ∈ ps, PotAt H' x 0) → Q (.ref q) H'
theorem ok_l_pots (T : TX K mg) : FnOk P w K mg base CX0 2 T.l_pots.f T.l_pots.d ["_law_script", "_law_most"] (sp_l_pots K) := by
  have G1 : FnOk P w K mg base CX0 1 T.l_pot.f T.l_pot.d ["_law_script", "_law_k"] (sp_l_pot K) := ok_l_pot T
  refine T.l_pots.F.ok sc_l_pots (fun vs H Q E h => ?_) (fun cdv A outer s H vs Q E hr h => ?_)
  · obtain ⟨a, ns, m, rfl, _⟩ := h
    rfl
  · obtain ⟨a, ns, m, rfl, ha, m10, q⟩ := h
    refine ⟨_, pss_one (ps_ret (pe_lc (own := [("_law_k", 2)]) (g := gName 2) (tt := tYes) (te := tCall (sp_l_pot K) [] E0 (tCons (tVar 0) (tCons (tVar 2) tNil))) rfl sc_l_pots.nd (pi_range1 (by rfl) T.n_range (pa_cons (pe_callB (call_max2 rfl) (by rfl) T.n_max boot_max' (pa_cons pe_int (pa_cons (pe_callB (call_min2 rfl) (by rfl) T.n_min boot_min' (pa_cons (pe_callTy call_int1 (by rfl) T.n_int boot_int' (pa_cons (pv 1) pa_nil)) (pa_cons (pe_callB call_len_seq (by rfl) T.n_len PySem.boot_len (pa_cons (pv 0) pa_nil)) pa_nil))) pa_nil))) pa_nil))
      (blkOk_by (own := [("_law_k", 2)]) (N := N_l_pots) (sc := defScope s_l_pots) (by decide +kernel)) (fun _ _ _ _ _ => pg_name (i := 2) sc_l_pots.nd rfl (.inl rfl)) (fun _ _ _ _ _ => pts_nil) (fun _ _ _ _ _ => T.l_pot.call G1 hr (pa_cons (pv 0) (pa_cons (pv 2) pa_nil))))), ?_⟩
    obtain ⟨j, hj, j1, j10⟩ : ∃ j : Int, j = (if (if ((ns.map V.int).length : Int) < m then ((ns.map V.int).length : Int) else m) > 1 then (if ((ns.map V.int).length : Int) < m then ((ns.map V.int).length : Int) else m) else 1) ∧ 1 ≤ j ∧ j ≤ 10 := ⟨_, rfl, by split <;> omega, by (repeat' split) <;> omega⟩
    refine ⟨_, rfl, .inl ⟨m, rfl, _, rfl, a, _, rfl, .inl ha, m, _, rfl, 1, _, rfl, j, congrArg (fun x => [V.int x]) hj.symm, by omega, by omega, fun D nD => walk_W (walk_range (lo := 0) (n := j.toNat)) (fun i H' => Ex H H' ∧ ∃ ps : List Addr, H' D = some (.lst (ps.map V.ref)) ∧ ps.length = i ∧ ps.Nodup ∧ ∀ x ∈ ps, PotAt H' x 0) ⟨Ex.new nD, [], upd_same, rfl, .nil, fun x hx => by cases hx⟩ (fun _ _ _ _ => trivial) (fun i x H1 H1' hi pv y => ?_) (fun H1 pv => ?_)⟩⟩
    · obtain ⟨e1, ps, hD, lp, nd, hps⟩ := pv
      obtain ⟨rfl, rfl⟩ := y
      refine ⟨rfl, _, rfl, _, rfl, a, ns, _, rfl, Evl.ex_l e1 ha, by omega, by omega, fun p H2 np e2 hp2 => ?_⟩
      have hD2 := e2 _ _ hD
      have keep : ∀ x, PotAt H2 x 0 → PotAt (upd H2 D (.lst (ps.map V.ref ++ [.ref p]))) x 0 := fun x hx => by
        have ne := pot_ne hx hD2
        obtain ⟨x1, y1, z1, g1, g2⟩ := hx
        exact ⟨x1, y1, z1, by rw [upd_ne ne]; exact g1, g2⟩
      refine ⟨_, hD2, smallT (by rw [List.length_map]; omega), ex_upd (e1.trans e2) nD, ps ++ [p], by rw [upd_same, List.map_append]; rfl, by rw [List.length_append, lp]; rfl, List.nodup_append.mpr ⟨nd, List.pairwise_singleton _ _, fun x hx y hy e => ?_⟩, fun x hx => ?_⟩
      · rw [List.mem_singleton.mp hy] at e
        exact (hps x hx).some (by rw [e]; exact np)
      · rcases List.mem_append.mp hx with z | z
        · exact keep x ((hps x z).ex' e2)
        · rw [List.mem_singleton.mp z]
          exact keep p hp2
    · obtain ⟨e1, ps, hD, lp, nd, hps⟩ := pv
      exact q D ps H1 e1 hD nd (by omega) hps
def sp_l_law (K : PySem.W.Frag) : Sp := fun vs H Q _ => ∃ (a : Addr) (ns : List Int), vs = [.ref a] ∧ SqL K H a (ns.map V.int) ∧ ∀ H', Q (.bl true) H'
theorem ok_l_law (T : TX K mg) : FnOk P w K mg base CX0 13 T.l_law.f T.l_law.d ["_law_script"] (sp_l_law K) := by
  have G1 : FnOk P w K mg base CX0 12 T.l_case_right.f T.l_case_right.d ["_law_pot_here"] sp_case_right := ok_case_right T
  have G2 : FnOk P w K mg base CX0 2 T.l_pots.f T.l_pots.d ["_law_script", "_law_most"] (sp_l_pots K) := ok_l_pots T
  refine T.l_law.F.ok sc_l_law (fun vs H Q E h => ?_) (fun cdv A outer s H vs Q E hr h => ?_)
  · obtain ⟨a, ns, rfl, _⟩ := h
    rfl
  · obtain ⟨a, ns, rfl, ha, q⟩ := h
    refine ⟨_, pss_one (ps_ret (pe_callB (cr_all rfl) (by rfl) T.n_all boot_all (pa_cons (pe_lc (own := [("_law_pot_here", 1)]) (g := gName 1) (tt := tYes) (te := tCall sp_case_right [] E0 (tCons (tVar 1) tNil)) rfl sc_l_law.nd (pi_list (T.l_pots.call G2 (hr.mono (by decide)) (pa_cons (pv 0) (pa_cons pe_int pa_nil))))
      (blkOk_by (own := [("_law_pot_here", 1)]) (N := N_l_law) (sc := defScope s_l_law) (by decide +kernel)) (fun _ _ _ _ _ => pg_name (i := 1) sc_l_law.nd rfl (.inl rfl)) (fun _ _ _ _ _ => pts_nil) (fun _ _ _ _ _ => T.l_case_right.call G1 hr (pa_cons (pv 1) pa_nil))) pa_nil))), ?_⟩
    refine ⟨_, rfl, a, ns, 2, rfl, ha, by decide, fun L ps H1 e1 hL nd l10 hps => ⟨L, rfl, ⟨_, tyL hL⟩, fun D nD => walk_W (walk_list (xs := ps.map V.ref)) (fun i H' => H' L = some (.lst (ps.map V.ref)) ∧ H' D = some (.lst ((List.replicate i true).map V.bl)) ∧ ∀ j x, i ≤ j → ps[j]? = some x → PotAt H' x 0) ?_ (fun i H' _ pv => tyL pv.1) (fun i x H2 H2' hi pv y => ?_) (fun H2 pv => ?_)⟩⟩
    · exact ⟨Ex.new nD _ _ hL, upd_same, fun j x _ hj => (hps x (List.mem_of_getElem? hj)).ex' (Ex.new nD)⟩
    · obtain ⟨hL2, hD2, hp2⟩ := pv
      obtain ⟨rfl, hx⟩ := y
      rw [List.length_map] at hi
      rw [List.getElem?_map] at hx
      obtain ⟨p, hp⟩ : ∃ p, ps[i]? = some p := ⟨_, List.getElem?_eq_getElem hi⟩
      rw [hp] at hx
      obtain rfl : V.ref p = x := Option.some.inj hx
      have pp := hp2 i p (Nat.le_refl i) hp
      have Dp := Ne.symm (pot_ne_bl pp hD2)
      have Lp := Ne.symm (pot_ne pp hL2)
      have LD : L ≠ D := ne_of_none hL nD
      refine ⟨rfl, _, rfl, p, 0, rfl, pp, by decide, fun H3 e3 => ?_⟩
      have hD3 := e3 _ _ Dp hD2
      refine ⟨_, hD3, smallT (by rw [List.length_map, List.length_replicate]; omega), ?_, ?_, fun j x hj hjx => ?_⟩
      · rw [upd_ne LD]
        exact e3 _ _ Lp hL2
      · rw [upd_same, List.replicate_succ', List.map_append]
        rfl
      · have hx2 := hp2 j x (by omega) hjx
        have xp : x ≠ p := fun z => by
          rw [z] at hjx
          obtain ⟨b1, b2⟩ := List.getElem?_eq_some_iff.mp hp
          obtain ⟨c1, c2⟩ := List.getElem?_eq_some_iff.mp hjx
          have := List.pairwise_iff_getElem.mp nd i j b1 c1 (by omega)
          exact this (b2.trans c2.symm)
        have xD := pot_ne_bl hx2 hD2
        obtain ⟨x1, y1, z1, g1, g2⟩ := hx2
        exact ⟨x1, y1, z1, by rw [upd_ne xD]; exact e3 _ _ xp g1, g2⟩
    · obtain ⟨hL2, hD2, hp2⟩ := pv
      refine ⟨D, _, rfl, tyL hD2, ?_⟩
      have : ∀ n, (List.replicate n true).all id = true := fun n => by
        rw [List.all_eq_true]
        intro b hb
        exact (List.mem_replicate.mp hb).2
      rw [this]
      exact q H2
end
end QT
namespace QT
open PySem PySem.Spec PyProof.Rows L2 QS QR

structure DF (K : PySem.W.Frag) (mg : Str → Option Value) where
  is_integer : GF K mg "is_integer" s_is_integer ["value"]
  is_from : GF K mg "is_from" s_is_from ["value", "least"]
  is_name : GF K mg "is_name" s_is_name ["value"]
  is_one_of : GF K mg "is_one_of" s_is_one_of ["value", "some"]
  is_tuple_of : GF K mg "is_tuple_of" s_is_tuple_of ["value", "many"]
  is_tuple_to : GF K mg "is_tuple_to" s_is_tuple_to ["value", "most"]
  are_ascending : GF K mg "are_ascending" s_are_ascending ["things"]
  is_ascending_of : GF K mg "is_ascending_of" s_is_ascending_of ["value", "some"]
  are_routers : GF K mg "are_routers" s_are_routers ["value"]
  is_link : GF K mg "is_link" s_is_link ["value", "routers"]
  are_links : GF K mg "are_links" s_are_links ["value", "routers"]
  check_routers : GF K mg "check_routers" s_check_routers ["net", "values"]
  link_of : GF K mg "link_of" s_link_of ["net", "a", "b"]
  lengths_of : GF K mg "lengths_of" s_lengths_of ["net"]
  distances_to : GF K mg "distances_to" s_distances_to ["routers", "lengths", "d"]
  nexts_by : GF K mg "nexts_by" s_nexts_by ["routers", "lengths", "distances", "router"]
  tables_by : GF K mg "tables_by" s_tables_by ["routers", "lengths"]
  next_tables : GF K mg "next_tables" s_next_tables ["net"]
  nexts : GF K mg "nexts" s_nexts ["net", "a", "d"]
  shifted : GF K mg "shifted" s_shifted ["net", "a", "b", "t"]
  point : GF K mg "point" s_point ["net", "a", "b", "router", "d"]
  all_points : GF K mg "all_points" s_all_points ["change", "routers"]
  points : GF K mg "points" s_points ["net", "a", "b"]
  l_pot : GF K mg "_law_pot" s_l_pot ["_law_script", "_law_k"]
  l_take : GF K mg "_law_take" s_l_take ["_law_pot_here", "_law_upto"]
  l_pots : GF K mg "_law_pots" s_l_pots ["_law_script", "_law_most"]
  l_of : GF K mg "_law_of" s_l_of ["_law_pot_here", "_law_some"]
  l_turned : GF K mg "_law_turned" s_l_turned ["_law_pot_here", "_law_some"]
  l_names : GF K mg "_law_names" s_l_names ["_law_pot_here", "_law_many"]
  l_far : GF K mg "_law_far" s_l_far ["_law_pot_here"]
  l_pairs : GF K mg "_law_pairs" s_l_pairs ["_law_pot_here", "_law_routers", "_law_many"]
  l_world : GF K mg "_law_world" s_l_world ["_law_pot_here", "_law_least", "_law_most", "_law_more"]
  l_made : GF K mg "_law_made" s_l_made ["_law_world_here"]
  l_lengths : GF K mg "_law_lengths" s_l_lengths ["_law_links"]
  l_with : GF K mg "_law_with" s_l_with ["_law_world_here", "_law_a", "_law_b", "_law_there", "_law_back"]
  l_link_of : GF K mg "_law_link_of" s_l_link_of ["_law_pot_here", "_law_least", "_law_most", "_law_more"]
  l_row_right : GF K mg "_law_row_right" s_l_row_right ["_law_net", "_law_a", "_law_b", "_law_pair", "_law_d", "_law_times"]
  l_case_right : GF K mg "_law_case_right" s_l_case_right ["_law_pot_here"]
  n_len : mg "len" = none
  n_zip : mg "zip" = none
  n_all : mg "all" = none
  n_isinstance : mg "isinstance" = none
  n_int : mg "int" = none
  n_bool : mg "bool" = none
  n_str : mg "str" = none
  n_tuple : mg "tuple" = none
  n_range : mg "range" = none
  n_list : mg "list" = none
  n_set : mg "set" = none
  n_sorted : mg "sorted" = none
  n_min : mg "min" = none
  n_max : mg "max" = none
  n_abs : mg "abs" = none
  n_enumerate : mg "enumerate" = none
  c_LETTERS : ∃ u, mg "LETTERS" = some u ∧ RelV (.str ("abcdefghijklmnopqrstuvwxyz" : Str)) u
  c_LONGEST_NAME : ∃ u, mg "LONGEST_NAME" = some u ∧ RelV (.int 8) u
  c_FEWEST_ROUTERS : ∃ u, mg "FEWEST_ROUTERS" = some u ∧ RelV (.int 2) u
  c_MOST_ROUTERS : ∃ u, mg "MOST_ROUTERS" = some u ∧ RelV (.int 8) u
  c_MOST_LINKS : ∃ u, mg "MOST_LINKS" = some u ∧ RelV (.int 16) u
  c_LINK : ∃ u, mg "LINK" = some u ∧ RelV (.int 4) u
def tx_mk {K : PySem.W.Frag} {mg : Str → Option Value} {h : Heap} (X : K.In h) (G : h.Ns mainGlobals mg) (D : DF K mg) (gl : GF K mg "law" s_l_law ["_law_script"])
    {CN CC pRr pLl fNI fNR fNL fNW fNO fCI fCD fCP : Addr}
    (gN : PySem.W.nsIn K mainGlobals "Net" = some (some (.ref CN)))
    (pgN : PySem.W.plainGet K CN Str.empty = true)
    (hdN : PySem.W.hasDictIn K CN = true)
    (poN : PySem.W.plainOver K CN = true)
    (saN : PySem.W.findIn K (.ref CN) "__setattr__" = some (some (.builtin "object.__setattr__")))
    (mkN : PySem.W.makesIn K CN = true)
    (kcN : PySem.W.keepIn K (.ref CN) = true)
    (aNI : PySem.W.findIn K (.ref CN) "__init__" = some (some (.ref fNI)))
    {od_fNI an_fNI : Option Addr} {sl_fNI : Array (Option Value)} {oc_fNI kV_fNI dc_fNI pm_fNI cd_fNI ct_fNI : Value}
    (l_fNI : K.lookup fNI = some ⟨oc_fNI, od_fNI, .func (PySem.W.fnOf "__init__" "Net.__init__" (defArgs s_net_init) (defBody s_net_init) (defScope s_net_init) .none kV_fNI dc_fNI pm_fNI an_fNI cd_fNI ct_fNI), sl_fNI⟩)
    (d_fNI : PySem.W.codeIn K cd_fNI "Net.__init__" = true)
    (k_fNI : PySem.W.keepIn K (.ref fNI) = true)
    (n_fNI : PySem.W.isFn K (.ref fNI) = true)
    (afNR : PySem.W.findIn K (.ref CN) "routers" = some (some (.ref pRr)))
    (bfNR : PySem.W.specialIn K (.ref pRr) "__get__" = some (some (.builtin "property.__get__")))
    (cfNR : PySem.W.takesIn K (.ref pRr) = some true)
    {r_fNR : List Value}
    (efNR : PySem.W.recIn K pRr "property" = some (.ref fNR :: r_fNR))
    {od_fNR an_fNR : Option Addr} {sl_fNR : Array (Option Value)} {oc_fNR kV_fNR dc_fNR pm_fNR cd_fNR ct_fNR : Value}
    (l_fNR : K.lookup fNR = some ⟨oc_fNR, od_fNR, .func (PySem.W.fnOf "routers" "Net.routers" (defArgs s_net_routers) (defBody s_net_routers) (defScope s_net_routers) .none kV_fNR dc_fNR pm_fNR an_fNR cd_fNR ct_fNR), sl_fNR⟩)
    (d_fNR : PySem.W.codeIn K cd_fNR "Net.routers" = true)
    (k_fNR : PySem.W.keepIn K (.ref fNR) = true)
    (n_fNR : PySem.W.isFn K (.ref fNR) = true)
    (afNL : PySem.W.findIn K (.ref CN) "links" = some (some (.ref pLl)))
    (bfNL : PySem.W.specialIn K (.ref pLl) "__get__" = some (some (.builtin "property.__get__")))
    (cfNL : PySem.W.takesIn K (.ref pLl) = some true)
    {r_fNL : List Value}
    (efNL : PySem.W.recIn K pLl "property" = some (.ref fNL :: r_fNL))
    {od_fNL an_fNL : Option Addr} {sl_fNL : Array (Option Value)} {oc_fNL kV_fNL dc_fNL pm_fNL cd_fNL ct_fNL : Value}
    (l_fNL : K.lookup fNL = some ⟨oc_fNL, od_fNL, .func (PySem.W.fnOf "links" "Net.links" (defArgs s_net_links) (defBody s_net_links) (defScope s_net_links) .none kV_fNL dc_fNL pm_fNL an_fNL cd_fNL ct_fNL), sl_fNL⟩)
    (d_fNL : PySem.W.codeIn K cd_fNL "Net.links" = true)
    (k_fNL : PySem.W.keepIn K (.ref fNL) = true)
    (n_fNL : PySem.W.isFn K (.ref fNL) = true)
    (aNW : PySem.W.findIn K (.ref CN) "with_link" = some (some (.ref fNW)))
    {od_fNW an_fNW : Option Addr} {sl_fNW : Array (Option Value)} {oc_fNW kV_fNW dc_fNW pm_fNW cd_fNW ct_fNW : Value}
    (l_fNW : K.lookup fNW = some ⟨oc_fNW, od_fNW, .func (PySem.W.fnOf "with_link" "Net.with_link" (defArgs s_net_with_link) (defBody s_net_with_link) (defScope s_net_with_link) .none kV_fNW dc_fNW pm_fNW an_fNW cd_fNW ct_fNW), sl_fNW⟩)
    (d_fNW : PySem.W.codeIn K cd_fNW "Net.with_link" = true)
    (k_fNW : PySem.W.keepIn K (.ref fNW) = true)
    (n_fNW : PySem.W.isFn K (.ref fNW) = true)
    (aNO : PySem.W.findIn K (.ref CN) "without" = some (some (.ref fNO)))
    {od_fNO an_fNO : Option Addr} {sl_fNO : Array (Option Value)} {oc_fNO kV_fNO dc_fNO pm_fNO cd_fNO ct_fNO : Value}
    (l_fNO : K.lookup fNO = some ⟨oc_fNO, od_fNO, .func (PySem.W.fnOf "without" "Net.without" (defArgs s_net_without) (defBody s_net_without) (defScope s_net_without) .none kV_fNO dc_fNO pm_fNO an_fNO cd_fNO ct_fNO), sl_fNO⟩)
    (d_fNO : PySem.W.codeIn K cd_fNO "Net.without" = true)
    (k_fNO : PySem.W.keepIn K (.ref fNO) = true)
    (n_fNO : PySem.W.isFn K (.ref fNO) = true)
    (nR : PySem.W.findIn K (.ref CN) "own_routers" = some none)
    (nL : PySem.W.findIn K (.ref CN) "own_links" = some none)
    (gC : PySem.W.nsIn K mainGlobals "Change" = some (some (.ref CC)))
    (pgC : PySem.W.plainGet K CC Str.empty = true)
    (hdC : PySem.W.hasDictIn K CC = true)
    (poC : PySem.W.plainOver K CC = true)
    (saC : PySem.W.findIn K (.ref CC) "__setattr__" = some (some (.builtin "object.__setattr__")))
    (mkC : PySem.W.makesIn K CC = true)
    (kcC : PySem.W.keepIn K (.ref CC) = true)
    (aCI : PySem.W.findIn K (.ref CC) "__init__" = some (some (.ref fCI)))
    {od_fCI an_fCI : Option Addr} {sl_fCI : Array (Option Value)} {oc_fCI kV_fCI dc_fCI pm_fCI cd_fCI ct_fCI : Value}
    (l_fCI : K.lookup fCI = some ⟨oc_fCI, od_fCI, .func (PySem.W.fnOf "__init__" "Change.__init__" (defArgs s_ch_init) (defBody s_ch_init) (defScope s_ch_init) .none kV_fCI dc_fCI pm_fCI an_fCI cd_fCI ct_fCI), sl_fCI⟩)
    (d_fCI : PySem.W.codeIn K cd_fCI "Change.__init__" = true)
    (k_fCI : PySem.W.keepIn K (.ref fCI) = true)
    (n_fCI : PySem.W.isFn K (.ref fCI) = true)
    (aCD : PySem.W.findIn K (.ref CC) "detour" = some (some (.ref fCD)))
    {od_fCD an_fCD : Option Addr} {sl_fCD : Array (Option Value)} {oc_fCD kV_fCD dc_fCD pm_fCD cd_fCD ct_fCD : Value}
    (l_fCD : K.lookup fCD = some ⟨oc_fCD, od_fCD, .func (PySem.W.fnOf "detour" "Change.detour" (defArgs s_ch_detour) (defBody s_ch_detour) (defScope s_ch_detour) .none kV_fCD dc_fCD pm_fCD an_fCD cd_fCD ct_fCD), sl_fCD⟩)
    (d_fCD : PySem.W.codeIn K cd_fCD "Change.detour" = true)
    (k_fCD : PySem.W.keepIn K (.ref fCD) = true)
    (n_fCD : PySem.W.isFn K (.ref fCD) = true)
    (aCP : PySem.W.findIn K (.ref CC) "point" = some (some (.ref fCP)))
    {od_fCP an_fCP : Option Addr} {sl_fCP : Array (Option Value)} {oc_fCP kV_fCP dc_fCP pm_fCP cd_fCP ct_fCP : Value}
    (l_fCP : K.lookup fCP = some ⟨oc_fCP, od_fCP, .func (PySem.W.fnOf "point" "Change.point" (defArgs s_ch_point) (defBody s_ch_point) (defScope s_ch_point) .none kV_fCP dc_fCP pm_fCP an_fCP cd_fCP ct_fCP), sl_fCP⟩)
    (d_fCP : PySem.W.codeIn K cd_fCP "Change.point" = true)
    (k_fCP : PySem.W.keepIn K (.ref fCP) = true)
    (n_fCP : PySem.W.isFn K (.ref fCP) = true)
    (nN : PySem.W.findIn K (.ref CC) "own_net" = some none)
    (nP : PySem.W.findIn K (.ref CC) "pair" = some none)
    (nLe : PySem.W.findIn K (.ref CC) "least" = some none)
    (nLs : PySem.W.findIn K (.ref CC) "lengths" = some none)
    (nPl : PySem.W.findIn K (.ref CC) "plain" = some none)
    (nWo : PySem.W.findIn K (.ref CC) "ways_over" = some none)
    : TX K mg where
  is_integer := D.is_integer
  is_from := D.is_from
  is_name := D.is_name
  is_one_of := D.is_one_of
  is_tuple_of := D.is_tuple_of
  is_tuple_to := D.is_tuple_to
  are_ascending := D.are_ascending
  is_ascending_of := D.is_ascending_of
  are_routers := D.are_routers
  is_link := D.is_link
  are_links := D.are_links
  check_routers := D.check_routers
  link_of := D.link_of
  lengths_of := D.lengths_of
  distances_to := D.distances_to
  nexts_by := D.nexts_by
  tables_by := D.tables_by
  next_tables := D.next_tables
  nexts := D.nexts
  shifted := D.shifted
  point := D.point
  all_points := D.all_points
  points := D.points
  l_pot := D.l_pot
  l_take := D.l_take
  l_pots := D.l_pots
  l_of := D.l_of
  l_turned := D.l_turned
  l_names := D.l_names
  l_far := D.l_far
  l_pairs := D.l_pairs
  l_world := D.l_world
  l_made := D.l_made
  l_lengths := D.l_lengths
  l_with := D.l_with
  l_link_of := D.l_link_of
  l_row_right := D.l_row_right
  l_case_right := D.l_case_right
  l_law := gl
  net_init := GM.mk' l_fNI d_fNI k_fNI (fun _ _ _ _ _ _ us hl => match us, hl with | [_, _, _], _ => rfl)
  net_routers := GM.mk' l_fNR d_fNR k_fNR (fun _ _ _ _ _ _ us hl => match us, hl with | [_], _ => rfl)
  net_links := GM.mk' l_fNL d_fNL k_fNL (fun _ _ _ _ _ _ us hl => match us, hl with | [_], _ => rfl)
  net_with_link := GM.mk' l_fNW d_fNW k_fNW (fun _ _ _ _ _ _ us hl => match us, hl with | [_, _, _, _, _], _ => rfl)
  net_without := GM.mk' l_fNO d_fNO k_fNO (fun _ _ _ _ _ _ us hl => match us, hl with | [_, _, _], _ => rfl)
  ch_init := GM.mk' l_fCI d_fCI k_fCI (fun _ _ _ _ _ _ us hl => match us, hl with | [_, _, _, _], _ => rfl)
  ch_detour := GM.mk' l_fCD d_fCD k_fCD (fun _ _ _ _ _ _ us hl => match us, hl with | [_, _, _], _ => rfl)
  ch_point := GM.mk' l_fCP d_fCP k_fCP (fun _ _ _ _ _ _ us hl => match us, hl with | [_, _, _], _ => rfl)
  n_len := D.n_len
  n_zip := D.n_zip
  n_all := D.n_all
  n_isinstance := D.n_isinstance
  n_int := D.n_int
  n_bool := D.n_bool
  n_str := D.n_str
  n_tuple := D.n_tuple
  n_range := D.n_range
  n_list := D.n_list
  n_set := D.n_set
  n_sorted := D.n_sorted
  n_min := D.n_min
  n_max := D.n_max
  n_abs := D.n_abs
  n_enumerate := D.n_enumerate
  c_LETTERS := D.c_LETTERS
  c_LONGEST_NAME := D.c_LONGEST_NAME
  c_FEWEST_ROUTERS := D.c_FEWEST_ROUTERS
  c_MOST_ROUTERS := D.c_MOST_ROUTERS
  c_MOST_LINKS := D.c_MOST_LINKS
  c_LINK := D.c_LINK
  CN := CN
  gN := PySem.W.mg_of X G gN
  clN := ⟨pgN, hdN, poN, saN⟩
  nR := nR
  nL := nL
  mkN := ⟨mkN, aNI, n_fNI, kcN⟩
  pR := ⟨pRr, afNR, bfNR, cfNR, r_fNR, efNR⟩
  pL := ⟨pLl, afNL, bfNL, cfNL, r_fNL, efNL⟩
  mW := ⟨aNW, n_fNW, k_fNW⟩
  mO := ⟨aNO, n_fNO, k_fNO⟩
  CC := CC
  gC := PySem.W.mg_of X G gC
  clC := ⟨pgC, hdC, poC, saC⟩
  nN := nN
  nP := nP
  nLe := nLe
  nLs := nLs
  nPl := nPl
  nWo := nWo
  mkC := ⟨mkC, aCI, n_fCI, kcC⟩
  mD := ⟨aCD, n_fCD, k_fCD⟩
  mP := ⟨aCP, n_fCP, k_fCP⟩
theorem law_fn {l : PySem.W.OpenLaw} {w : World} {K : PySem.W.Frag} {mg : Str → Option Value} {h : Heap} {fa f2 : Addr} (X : K.In h) (G : h.Ns mainGlobals mg) (hfa : mg "law" = some (.ref fa)) {od2 an2 : Option Addr} {sl2 : Array (Option Value)} {oc2 kV2 dc2 pm2 cd2 ct2 : Value}
    (a2 : PySem.W.nsIn K mainGlobals "law" = some (some (.ref f2))) (l2 : K.lookup f2 = some ⟨oc2, od2, .func (PySem.W.fnOf "law" "law" (defArgs s_l_law) (defBody s_l_law) (defScope s_l_law) .none kV2 dc2 pm2 an2 cd2 ct2), sl2⟩) (c2 : PySem.W.codeIn K cd2 "law" = true) (k2 : PySem.W.keepIn K (.ref f2) = true)
    (T : GF K mg "law" s_l_law ["_law_script"] → TX K mg) (hT : ∀ g, (T g).l_law = g) :
    ∃ fd : FuncData, (∀ (s : Shared) (v : Value), BindsTo s fd ⟨[v], []⟩ [("_law_script", v)]) ∧ ∀ base : Heap, K.In base → base.Ns mainGlobals mg → FnOk l.prog w K mg base CX0 13 fa fd ["_law_script"] (sp_l_law K) := by
  have e := hfa.symm.trans (PySem.W.mg_of X G a2)
  cases e
  refine ⟨PySem.W.fnOf "law" "law" (defArgs s_l_law) (defBody s_l_law) (defScope s_l_law) .none kV2 dc2 pm2 an2 cd2 ct2, fun s v => .of_eq rfl, fun base _ _ => ?_⟩
  have := ok_l_law (P := l.prog) (w := w) (base := base) (T (GF.mk' X G a2 l2 c2 k2 (fun _ _ _ _ _ _ us hl => match us, hl with | [_], _ => rfl)))
  rw [hT] at this
  exact this
end QT
open PySem PySem.W PyProof.Rows
set_option maxHeartbeats 0
open_top hd for PySem.Challenge.rw_quietturns_k27_whole_each_link_has_one_s
open PySem PySem.W PyProof.Rows
set_option maxHeartbeats 0

theorem PySem.Challenge.cw_quietturns_k27_whole_each_link_has_one_s_holds : PySem.Challenge.rw_quietturns_k27_whole_each_link_has_one_s.Holds := by
  refine hd ?_
  k_fill
  refine L2.walk_ofK (l := PySem.Challenge.rw_quietturns_k27_whole_each_link_has_one_s) (n := 63) (k := 13) (x := "_law_script") (CX := L2.CX0) (sp := QT.sp_l_law) rfl (by decide) rfl ⟨rfl, by decide, by decide⟩ (fun w h Y => PySem.W.kIn_of Y) ?F (fun _ _ a ns hl _ hS => ⟨a, ns, rfl, hS, fun _ => rfl⟩) (fun _ _ _ _ h => h)
  case F =>
    intro w mg fa h KX G hmg
    have g_is_integer := QT.GF.mk' (x := "is_integer") (st := QT.s_is_integer) (ps := ["value"]) KX G (by k_is) (by k_is) (by k_is) (by k_is) (fun _ _ _ _ _ _ us hl => match us, hl with | [_], _ => rfl)
    have g_is_from := QT.GF.mk' (x := "is_from") (st := QT.s_is_from) (ps := ["value", "least"]) KX G (by k_is) (by k_is) (by k_is) (by k_is) (fun _ _ _ _ _ _ us hl => match us, hl with | [_, _], _ => rfl)
    have g_is_name := QT.GF.mk' (x := "is_name") (st := QT.s_is_name) (ps := ["value"]) KX G (by k_is) (by k_is) (by k_is) (by k_is) (fun _ _ _ _ _ _ us hl => match us, hl with | [_], _ => rfl)
    have g_is_one_of := QT.GF.mk' (x := "is_one_of") (st := QT.s_is_one_of) (ps := ["value", "some"]) KX G (by k_is) (by k_is) (by k_is) (by k_is) (fun _ _ _ _ _ _ us hl => match us, hl with | [_, _], _ => rfl)
    have g_is_tuple_of := QT.GF.mk' (x := "is_tuple_of") (st := QT.s_is_tuple_of) (ps := ["value", "many"]) KX G (by k_is) (by k_is) (by k_is) (by k_is) (fun _ _ _ _ _ _ us hl => match us, hl with | [_, _], _ => rfl)
    have g_is_tuple_to := QT.GF.mk' (x := "is_tuple_to") (st := QT.s_is_tuple_to) (ps := ["value", "most"]) KX G (by k_is) (by k_is) (by k_is) (by k_is) (fun _ _ _ _ _ _ us hl => match us, hl with | [_, _], _ => rfl)
    have g_are_ascending := QT.GF.mk' (x := "are_ascending") (st := QT.s_are_ascending) (ps := ["things"]) KX G (by k_is) (by k_is) (by k_is) (by k_is) (fun _ _ _ _ _ _ us hl => match us, hl with | [_], _ => rfl)
    have g_is_ascending_of := QT.GF.mk' (x := "is_ascending_of") (st := QT.s_is_ascending_of) (ps := ["value", "some"]) KX G (by k_is) (by k_is) (by k_is) (by k_is) (fun _ _ _ _ _ _ us hl => match us, hl with | [_, _], _ => rfl)
    have g_are_routers := QT.GF.mk' (x := "are_routers") (st := QT.s_are_routers) (ps := ["value"]) KX G (by k_is) (by k_is) (by k_is) (by k_is) (fun _ _ _ _ _ _ us hl => match us, hl with | [_], _ => rfl)
    have g_is_link := QT.GF.mk' (x := "is_link") (st := QT.s_is_link) (ps := ["value", "routers"]) KX G (by k_is) (by k_is) (by k_is) (by k_is) (fun _ _ _ _ _ _ us hl => match us, hl with | [_, _], _ => rfl)
    have g_are_links := QT.GF.mk' (x := "are_links") (st := QT.s_are_links) (ps := ["value", "routers"]) KX G (by k_is) (by k_is) (by k_is) (by k_is) (fun _ _ _ _ _ _ us hl => match us, hl with | [_, _], _ => rfl)
    have g_check_routers := QT.GF.mk' (x := "check_routers") (st := QT.s_check_routers) (ps := ["net", "values"]) KX G (by k_is) (by k_is) (by k_is) (by k_is) (fun _ _ _ _ _ _ us hl => match us, hl with | [_, _], _ => rfl)
    have g_link_of := QT.GF.mk' (x := "link_of") (st := QT.s_link_of) (ps := ["net", "a", "b"]) KX G (by k_is) (by k_is) (by k_is) (by k_is) (fun _ _ _ _ _ _ us hl => match us, hl with | [_, _, _], _ => rfl)
    have g_lengths_of := QT.GF.mk' (x := "lengths_of") (st := QT.s_lengths_of) (ps := ["net"]) KX G (by k_is) (by k_is) (by k_is) (by k_is) (fun _ _ _ _ _ _ us hl => match us, hl with | [_], _ => rfl)
    have g_distances_to := QT.GF.mk' (x := "distances_to") (st := QT.s_distances_to) (ps := ["routers", "lengths", "d"]) KX G (by k_is) (by k_is) (by k_is) (by k_is) (fun _ _ _ _ _ _ us hl => match us, hl with | [_, _, _], _ => rfl)
    have g_nexts_by := QT.GF.mk' (x := "nexts_by") (st := QT.s_nexts_by) (ps := ["routers", "lengths", "distances", "router"]) KX G (by k_is) (by k_is) (by k_is) (by k_is) (fun _ _ _ _ _ _ us hl => match us, hl with | [_, _, _, _], _ => rfl)
    have g_tables_by := QT.GF.mk' (x := "tables_by") (st := QT.s_tables_by) (ps := ["routers", "lengths"]) KX G (by k_is) (by k_is) (by k_is) (by k_is) (fun _ _ _ _ _ _ us hl => match us, hl with | [_, _], _ => rfl)
    have g_next_tables := QT.GF.mk' (x := "next_tables") (st := QT.s_next_tables) (ps := ["net"]) KX G (by k_is) (by k_is) (by k_is) (by k_is) (fun _ _ _ _ _ _ us hl => match us, hl with | [_], _ => rfl)
    have g_nexts := QT.GF.mk' (x := "nexts") (st := QT.s_nexts) (ps := ["net", "a", "d"]) KX G (by k_is) (by k_is) (by k_is) (by k_is) (fun _ _ _ _ _ _ us hl => match us, hl with | [_, _, _], _ => rfl)
    have g_shifted := QT.GF.mk' (x := "shifted") (st := QT.s_shifted) (ps := ["net", "a", "b", "t"]) KX G (by k_is) (by k_is) (by k_is) (by k_is) (fun _ _ _ _ _ _ us hl => match us, hl with | [_, _, _, _], _ => rfl)
    have g_point := QT.GF.mk' (x := "point") (st := QT.s_point) (ps := ["net", "a", "b", "router", "d"]) KX G (by k_is) (by k_is) (by k_is) (by k_is) (fun _ _ _ _ _ _ us hl => match us, hl with | [_, _, _, _, _], _ => rfl)
    have g_all_points := QT.GF.mk' (x := "all_points") (st := QT.s_all_points) (ps := ["change", "routers"]) KX G (by k_is) (by k_is) (by k_is) (by k_is) (fun _ _ _ _ _ _ us hl => match us, hl with | [_, _], _ => rfl)
    have g_points := QT.GF.mk' (x := "points") (st := QT.s_points) (ps := ["net", "a", "b"]) KX G (by k_is) (by k_is) (by k_is) (by k_is) (fun _ _ _ _ _ _ us hl => match us, hl with | [_, _, _], _ => rfl)
    have g_l_pot := QT.GF.mk' (x := "_law_pot") (st := QT.s_l_pot) (ps := ["_law_script", "_law_k"]) KX G (by k_is) (by k_is) (by k_is) (by k_is) (fun _ _ _ _ _ _ us hl => match us, hl with | [_, _], _ => rfl)
    have g_l_take := QT.GF.mk' (x := "_law_take") (st := QT.s_l_take) (ps := ["_law_pot_here", "_law_upto"]) KX G (by k_is) (by k_is) (by k_is) (by k_is) (fun _ _ _ _ _ _ us hl => match us, hl with | [_, _], _ => rfl)
    have g_l_pots := QT.GF.mk' (x := "_law_pots") (st := QT.s_l_pots) (ps := ["_law_script", "_law_most"]) KX G (by k_is) (by k_is) (by k_is) (by k_is) (fun _ _ _ _ _ _ us hl => match us, hl with | [_, _], _ => rfl)
    have g_l_of := QT.GF.mk' (x := "_law_of") (st := QT.s_l_of) (ps := ["_law_pot_here", "_law_some"]) KX G (by k_is) (by k_is) (by k_is) (by k_is) (fun _ _ _ _ _ _ us hl => match us, hl with | [_, _], _ => rfl)
    have g_l_turned := QT.GF.mk' (x := "_law_turned") (st := QT.s_l_turned) (ps := ["_law_pot_here", "_law_some"]) KX G (by k_is) (by k_is) (by k_is) (by k_is) (fun _ _ _ _ _ _ us hl => match us, hl with | [_, _], _ => rfl)
    have g_l_names := QT.GF.mk' (x := "_law_names") (st := QT.s_l_names) (ps := ["_law_pot_here", "_law_many"]) KX G (by k_is) (by k_is) (by k_is) (by k_is) (fun _ _ _ _ _ _ us hl => match us, hl with | [_, _], _ => rfl)
    have g_l_far := QT.GF.mk' (x := "_law_far") (st := QT.s_l_far) (ps := ["_law_pot_here"]) KX G (by k_is) (by k_is) (by k_is) (by k_is) (fun _ _ _ _ _ _ us hl => match us, hl with | [_], _ => rfl)
    have g_l_pairs := QT.GF.mk' (x := "_law_pairs") (st := QT.s_l_pairs) (ps := ["_law_pot_here", "_law_routers", "_law_many"]) KX G (by k_is) (by k_is) (by k_is) (by k_is) (fun _ _ _ _ _ _ us hl => match us, hl with | [_, _, _], _ => rfl)
    have g_l_world := QT.GF.mk' (x := "_law_world") (st := QT.s_l_world) (ps := ["_law_pot_here", "_law_least", "_law_most", "_law_more"]) KX G (by k_is) (by k_is) (by k_is) (by k_is) (fun _ _ _ _ _ _ us hl => match us, hl with | [_, _, _, _], _ => rfl)
    have g_l_made := QT.GF.mk' (x := "_law_made") (st := QT.s_l_made) (ps := ["_law_world_here"]) KX G (by k_is) (by k_is) (by k_is) (by k_is) (fun _ _ _ _ _ _ us hl => match us, hl with | [_], _ => rfl)
    have g_l_lengths := QT.GF.mk' (x := "_law_lengths") (st := QT.s_l_lengths) (ps := ["_law_links"]) KX G (by k_is) (by k_is) (by k_is) (by k_is) (fun _ _ _ _ _ _ us hl => match us, hl with | [_], _ => rfl)
    have g_l_with := QT.GF.mk' (x := "_law_with") (st := QT.s_l_with) (ps := ["_law_world_here", "_law_a", "_law_b", "_law_there", "_law_back"]) KX G (by k_is) (by k_is) (by k_is) (by k_is) (fun _ _ _ _ _ _ us hl => match us, hl with | [_, _, _, _, _], _ => rfl)
    have g_l_link_of := QT.GF.mk' (x := "_law_link_of") (st := QT.s_l_link_of) (ps := ["_law_pot_here", "_law_least", "_law_most", "_law_more"]) KX G (by k_is) (by k_is) (by k_is) (by k_is) (fun _ _ _ _ _ _ us hl => match us, hl with | [_, _, _, _], _ => rfl)
    have g_l_row_right := QT.GF.mk' (x := "_law_row_right") (st := QT.s_l_row_right) (ps := ["_law_net", "_law_a", "_law_b", "_law_pair", "_law_d", "_law_times"]) KX G (by k_is) (by k_is) (by k_is) (by k_is) (fun _ _ _ _ _ _ us hl => match us, hl with | [_, _, _, _, _, _], _ => rfl)
    have g_l_case_right := QT.GF.mk' (x := "_law_case_right") (st := QT.s_l_case_right) (ps := ["_law_pot_here"]) KX G (by k_is) (by k_is) (by k_is) (by k_is) (fun _ _ _ _ _ _ us hl => match us, hl with | [_], _ => rfl)
    have n_len : mg "len" = none := PySem.W.mg_none_of KX G (by k_is)
    have n_zip : mg "zip" = none := PySem.W.mg_none_of KX G (by k_is)
    have n_all : mg "all" = none := PySem.W.mg_none_of KX G (by k_is)
    have n_isinstance : mg "isinstance" = none := PySem.W.mg_none_of KX G (by k_is)
    have n_int : mg "int" = none := PySem.W.mg_none_of KX G (by k_is)
    have n_bool : mg "bool" = none := PySem.W.mg_none_of KX G (by k_is)
    have n_str : mg "str" = none := PySem.W.mg_none_of KX G (by k_is)
    have n_tuple : mg "tuple" = none := PySem.W.mg_none_of KX G (by k_is)
    have n_range : mg "range" = none := PySem.W.mg_none_of KX G (by k_is)
    have n_list : mg "list" = none := PySem.W.mg_none_of KX G (by k_is)
    have n_set : mg "set" = none := PySem.W.mg_none_of KX G (by k_is)
    have n_sorted : mg "sorted" = none := PySem.W.mg_none_of KX G (by k_is)
    have n_min : mg "min" = none := PySem.W.mg_none_of KX G (by k_is)
    have n_max : mg "max" = none := PySem.W.mg_none_of KX G (by k_is)
    have n_abs : mg "abs" = none := PySem.W.mg_none_of KX G (by k_is)
    have n_enumerate : mg "enumerate" = none := PySem.W.mg_none_of KX G (by k_is)
    have c_LETTERS : ∃ u, mg "LETTERS" = some u ∧ L2.RelV (.str ("abcdefghijklmnopqrstuvwxyz" : Str)) u := ⟨_, PySem.W.mg_of KX G (by k_is), ⟨_, rfl⟩⟩
    have c_LONGEST_NAME : ∃ u, mg "LONGEST_NAME" = some u ∧ L2.RelV (.int 8) u := ⟨_, PySem.W.mg_of KX G (by k_is), ⟨_, rfl⟩⟩
    have c_FEWEST_ROUTERS : ∃ u, mg "FEWEST_ROUTERS" = some u ∧ L2.RelV (.int 2) u := ⟨_, PySem.W.mg_of KX G (by k_is), ⟨_, rfl⟩⟩
    have c_MOST_ROUTERS : ∃ u, mg "MOST_ROUTERS" = some u ∧ L2.RelV (.int 8) u := ⟨_, PySem.W.mg_of KX G (by k_is), ⟨_, rfl⟩⟩
    have c_MOST_LINKS : ∃ u, mg "MOST_LINKS" = some u ∧ L2.RelV (.int 16) u := ⟨_, PySem.W.mg_of KX G (by k_is), ⟨_, rfl⟩⟩
    have c_LINK : ∃ u, mg "LINK" = some u ∧ L2.RelV (.int 4) u := ⟨_, PySem.W.mg_of KX G (by k_is), ⟨_, rfl⟩⟩
    have D : QT.DF _ mg := ⟨g_is_integer, g_is_from, g_is_name, g_is_one_of, g_is_tuple_of, g_is_tuple_to, g_are_ascending, g_is_ascending_of, g_are_routers, g_is_link, g_are_links, g_check_routers, g_link_of, g_lengths_of, g_distances_to, g_nexts_by, g_tables_by, g_next_tables, g_nexts, g_shifted, g_point, g_all_points, g_points, g_l_pot, g_l_take, g_l_pots, g_l_of, g_l_turned, g_l_names, g_l_far, g_l_pairs, g_l_world, g_l_made, g_l_lengths, g_l_with, g_l_link_of, g_l_row_right, g_l_case_right, n_len, n_zip, n_all, n_isinstance, n_int, n_bool, n_str, n_tuple, n_range, n_list, n_set, n_sorted, n_min, n_max, n_abs, n_enumerate, c_LETTERS, c_LONGEST_NAME, c_FEWEST_ROUTERS, c_MOST_ROUTERS, c_MOST_LINKS, c_LINK⟩
    refine' QT.law_fn KX G hmg ?a2 ?l2 ?c2 ?k2 (fun gl => QT.tx_mk KX G D gl ?gN ?pgN ?hdN ?poN ?saN ?mkN ?kcN ?aNI ?l_fNI ?d_fNI ?k_fNI ?n_fNI ?afNR ?bfNR ?cfNR ?efNR ?l_fNR ?d_fNR ?k_fNR ?n_fNR ?afNL ?bfNL ?cfNL ?efNL ?l_fNL ?d_fNL ?k_fNL ?n_fNL ?aNW ?l_fNW ?d_fNW ?k_fNW ?n_fNW ?aNO ?l_fNO ?d_fNO ?k_fNO ?n_fNO ?nR ?nL ?gC ?pgC ?hdC ?poC ?saC ?mkC ?kcC ?aCI ?l_fCI ?d_fCI ?k_fCI ?n_fCI ?aCD ?l_fCD ?d_fCD ?k_fCD ?n_fCD ?aCP ?l_fCP ?d_fCP ?k_fCP ?n_fCP ?nN ?nP ?nLe ?nLs ?nPl ?nWo) (fun _ => rfl)
    (case a2 => k_is)
    (case l2 => k_is)
    (case c2 => k_is)
    (case k2 => k_is)
    (case gN => k_is)
    (case pgN => k_is)
    (case hdN => k_is)
    (case poN => k_is)
    (case saN => k_is)
    (case mkN => k_is)
    (case kcN => k_is)
    (case aNI => k_is)
    (case l_fNI => k_is)
    (case d_fNI => k_is)
    (case k_fNI => k_is)
    (case n_fNI => k_is)
    (case afNR => k_is)
    (case bfNR => k_is)
    (case cfNR => k_is)
    (case efNR => k_is)
    (case l_fNR => k_is)
    (case d_fNR => k_is)
    (case k_fNR => k_is)
    (case n_fNR => k_is)
    (case afNL => k_is)
    (case bfNL => k_is)
    (case cfNL => k_is)
    (case efNL => k_is)
    (case l_fNL => k_is)
    (case d_fNL => k_is)
    (case k_fNL => k_is)
    (case n_fNL => k_is)
    (case aNW => k_is)
    (case l_fNW => k_is)
    (case d_fNW => k_is)
    (case k_fNW => k_is)
    (case n_fNW => k_is)
    (case aNO => k_is)
    (case l_fNO => k_is)
    (case d_fNO => k_is)
    (case k_fNO => k_is)
    (case n_fNO => k_is)
    (case nR => k_is)
    (case nL => k_is)
    (case gC => k_is)
    (case pgC => k_is)
    (case hdC => k_is)
    (case poC => k_is)
    (case saC => k_is)
    (case mkC => k_is)
    (case kcC => k_is)
    (case aCI => k_is)
    (case l_fCI => k_is)
    (case d_fCI => k_is)
    (case k_fCI => k_is)
    (case n_fCI => k_is)
    (case aCD => k_is)
    (case l_fCD => k_is)
    (case d_fCD => k_is)
    (case k_fCD => k_is)
    (case n_fCD => k_is)
    (case aCP => k_is)
    (case l_fCP => k_is)
    (case d_fCP => k_is)
    (case k_fCP => k_is)
    (case n_fCP => k_is)
    (case nN => k_is)
    (case nP => k_is)
    (case nLe => k_is)
    (case nLs => k_is)
    (case nPl => k_is)
    (case nWo => k_is)
